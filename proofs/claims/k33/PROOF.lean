import PyProof.Rows.All
import Wide.All
import OpenK.AllK
import Wide.FinOn
import HandS.ForMost
import HandS.ForExc
import HandS.DictComp
import HandS.IsInst
import HandS.Deep
import HandS.Conv
import HandS.Defaults
import HandS.Wide
import HandS.Style
import HandS.Zip
import HandS.DictTup
import KE.SortData
import KE.DataCmp
import KE.DataMinMax
import KE.KDictKeyed
import KE.KStar
import HandS.TupAny
import HandS.Star
import PyProof.EnumMake
import KE.GoesEnum
import KE.GoesMore
import HandS.Small
import HandS.Head0
import HandS.Head1
import HandS.Head2
import HandS.HeadEnd
import HandS.HeadHook1
import HandS.HeadHook2
import PySem.Challenge.RW_runaways_k33_whole_the_walkers_rule
set_option Elab.async false
set_option linter.all false
set_option maxRecDepth 100000
set_option maxHeartbeats 0
/-! Ev0 -/
namespace Ev
open PySem PySem.Spec PyProof.Rows L2

/-! ### data -/
inductive D where
  | non | bl (b : Bool) | int (i : Int) | str (s : Str)
  | lst (xs : List D) | tup (xs : List D)
  | dct (kvs : List (D × D))
  | obj (c : Str) (fs : List (Str × D))
  | tok (n : Nat)

/-- what a name holds: data that never change; an own list, dict, object that may -/
inductive T where
  | fz (d : D)
  | ol (ds : List D)
  | od (kvs : List (D × D))
  | oo (c : Str) (fs : List (Str × D))
def T.er : T → D
  | .fz d => d
  | .ol ds => .lst ds
  | .od kvs => .dct kvs
  | .oo c fs => .obj c fs

mutual
def toP : D → Option PyData
  | .non => some .none
  | .bl b => some (.bool b)
  | .int i => some (.int i)
  | .str s => some (.str s)
  | .lst xs => (toPs xs).map .list
  | .tup xs => (toPs xs).map .tuple
  | .dct _ => none
  | .obj _ _ => none
  | .tok _ => none
def toPs : List D → Option (List PyData)
  | [] => some []
  | x :: xs => match toP x, toPs xs with
    | some p, some ps => some (p :: ps)
    | _, _ => none
end
/-- a key carried by value -/
def toKey : D → Option Key
  | .int i => some (.inl i)
  | .str s => some (.inr s)
  | _ => none
mutual
/-- a key that is a tuple, or stands in one -/
def toNK : D → Option NestedKey
  | .non => some .none
  | .int i => some (.num i)
  | .str s => some (.text s)
  | .tup xs => (toNKs xs).map .tup
  | _ => none
def toNKs : List D → Option (List NestedKey)
  | [] => some []
  | x :: xs => match toNK x, toNKs xs with
    | some p, some ps => some (p :: ps)
    | _, _ => none
end

/-! ### how data stand in the abstract heap -/
structure Ctx where
  K : PySem.W.Frag
  w : World
  cls : Str → Addr
abbrev Toks := Nat → Option Addr
mutual
def R (C : Ctx) (θ : Toks) (H : Hp) : D → V → Prop
  | .non, v => v = .non
  | .bl b, v => v = .bl b
  | .int i, v => v = .int i
  | .str s, v => v = .str s
  | .lst ds, v => ∃ a vs, v = .ref a ∧ H a = some (.lst vs) ∧ Rs C θ H ds vs
  | .tup ds, v => ∃ a vs, v = .ref a ∧ SqT C.K H a vs ∧ Rs C θ H ds vs
  | .dct kvs, v => ∃ a ks, v = .ref a ∧ Rd H a (.dK ks) ∧ RK C θ H kvs ks
  | .obj c fs, v => ∃ a dx vs, v = .ref a ∧ H a = some (.ins (C.cls c) dx vs) ∧ RF C θ H fs vs
  | .tok n, v => ∃ a, θ n = some a ∧ v = .ref a
def Rs (C : Ctx) (θ : Toks) (H : Hp) : List D → List V → Prop
  | [], vs => vs = []
  | d :: ds, vs => ∃ v r, vs = v :: r ∧ R C θ H d v ∧ Rs C θ H ds r
def RK (C : Ctx) (θ : Toks) (H : Hp) : List (D × D) → List (Key × V) → Prop
  | [], vs => vs = []
  | (kd, d) :: ds, vs => ∃ k v r, vs = (k, v) :: r ∧ toKey kd = some k ∧ R C θ H d v ∧ RK C θ H ds r
def RF (C : Ctx) (θ : Toks) (H : Hp) : List (Str × D) → List (Str × V) → Prop
  | [], vs => vs = []
  | (f, d) :: ds, vs => ∃ v r, vs = (f, v) :: r ∧ R C θ H d v ∧ RF C θ H ds r
end

/-- more is told; a dict may be locked -/
def Lk (o : HO) : Prop := ∃ ks, o = .dK ks
def Le (H H' : Hp) : Prop := ∀ a o, H a = some o → H' a = some o ∨ (Lk o ∧ ∃ ob, H' a = some (.frz ob o))
def Tle (θ θ' : Toks) : Prop := ∀ n a, θ n = some a → θ' n = some a
theorem Le.refl (H : Hp) : Le H H := fun _ _ h => .inl h
theorem Tle.refl (θ : Toks) : Tle θ θ := fun _ _ h => h
theorem Tle.trans {θ θ' θ'' : Toks} (a : Tle θ θ') (b : Tle θ' θ'') : Tle θ θ'' := fun n x h => b n x (a n x h)
theorem Lk.nofrz {o : HO} (h : Lk o) : ∀ ob u, o ≠ .frz ob u := by
  rintro ob u rfl
  obtain ⟨ks, e⟩ := h
  cases e
theorem Le.rd {H H' : Hp} (l : Le H H') {a : Addr} {u : HO} (h : Rd H a u) : Rd H' a u := by
  rcases h with h | ⟨o, h⟩
  · rcases l a _ h with q | ⟨_, ob, q⟩
    · exact .inl q
    · exact .inr ⟨ob, q⟩
  · rcases l a _ h with q | ⟨n, ob, q⟩
    · exact .inr ⟨o, q⟩
    · exact absurd rfl (n.nofrz o u)
theorem Le.sql {K : PySem.W.Frag} {H H' : Hp} (l : Le H H') {a : Addr} {vs : List V} (h : SqL K H a vs) : SqL K H' a vs := h.elim (fun z => .inl (l.rd z)) .inr
theorem Le.sqt {K : PySem.W.Frag} {H H' : Hp} (l : Le H H') {a : Addr} {vs : List V} (h : SqT K H a vs) : SqT K H' a vs := h.elim (fun z => .inl (l.rd z)) .inr
theorem Le.ins {H H' : Hp} (l : Le H H') {a C dx : Addr} {fs : List (Str × V)} (h : H a = some (.ins C dx fs)) : H' a = some (.ins C dx fs) := by
  rcases l a _ h with q | ⟨n, _⟩
  · exact q
  · obtain ⟨ks, e⟩ := n
    cases e
theorem Le.lst {H H' : Hp} (l : Le H H') {a : Addr} {vs : List V} (h : H a = some (.lst vs)) : H' a = some (.lst vs) := by
  rcases l a _ h with q | ⟨n, _⟩
  · exact q
  · obtain ⟨ks, e⟩ := n
    cases e
section
variable {C : Ctx} {θ θ' : Toks} {H H' : Hp}
mutual
theorem R.mono (l : Le H H') (t : Tle θ θ') : ∀ (d : D) (v : V), R C θ H d v → R C θ' H' d v
  | .non, _, h => h
  | .bl _, _, h => h
  | .int _, _, h => h
  | .str _, _, h => h
  | .lst ds, v, h => by
    obtain ⟨a, vs, e, q, r⟩ := h
    exact ⟨a, vs, e, l.lst q, Rs.mono l t ds vs r⟩
  | .tup ds, v, h => by
    obtain ⟨a, vs, e, q, r⟩ := h
    exact ⟨a, vs, e, l.sqt q, Rs.mono l t ds vs r⟩
  | .dct kvs, v, h => by
    obtain ⟨a, ks, e, q, r⟩ := h
    exact ⟨a, ks, e, l.rd q, RK.mono l t kvs ks r⟩
  | .obj c fs, v, h => by
    obtain ⟨a, dx, vs, e, q, r⟩ := h
    exact ⟨a, dx, vs, e, l.ins q, RF.mono l t fs vs r⟩
  | .tok n, v, h => by
    obtain ⟨a, q, e⟩ := h
    exact ⟨a, t n a q, e⟩
theorem Rs.mono (l : Le H H') (t : Tle θ θ') : ∀ (ds : List D) (vs : List V), Rs C θ H ds vs → Rs C θ' H' ds vs
  | [], _, h => h
  | d :: ds, vs, h => by
    obtain ⟨v, r, e, q, z⟩ := h
    exact ⟨v, r, e, R.mono l t d v q, Rs.mono l t ds r z⟩
theorem RK.mono (l : Le H H') (t : Tle θ θ') : ∀ (ds : List (D × D)) (vs : List (Key × V)), RK C θ H ds vs → RK C θ' H' ds vs
  | [], _, h => h
  | (kd, d) :: ds, vs, h => by
    obtain ⟨k, v, r, e, hk, q, z⟩ := h
    exact ⟨k, v, r, e, hk, R.mono l t d v q, RK.mono l t ds r z⟩
theorem RF.mono (l : Le H H') (t : Tle θ θ') : ∀ (ds : List (Str × D)) (vs : List (Str × V)), RF C θ H ds vs → RF C θ' H' ds vs
  | [], _, h => h
  | (f, d) :: ds, vs, h => by
    obtain ⟨v, r, e, q, z⟩ := h
    exact ⟨v, r, e, R.mono l t d v q, RF.mono l t ds r z⟩
end
mutual
theorem R.dp : ∀ (d : D) (v : V) (p : PyData), R C θ H d v → toP d = some p → Dp C.K H v p
  | .non, v, p, h, e => by
    cases (show v = .non from h)
    cases (Option.some.inj (show some PyData.none = some p from e))
    exact .non
  | .bl b, v, p, h, e => by
    cases (show v = .bl b from h)
    cases (Option.some.inj (show some (PyData.bool b) = some p from e))
    exact .bl b
  | .int b, v, p, h, e => by
    cases (show v = .int b from h)
    cases (Option.some.inj (show some (PyData.int b) = some p from e))
    exact .int b
  | .str b, v, p, h, e => by
    cases (show v = .str b from h)
    cases (Option.some.inj (show some (PyData.str b) = some p from e))
    exact .str b
  | .lst ds, v, p, h, e => by
    obtain ⟨a, vs, rfl, q, r⟩ := h
    have e : (toPs ds).map PyData.list = some p := e
    obtain ⟨ps, e1, rfl⟩ := Option.map_eq_some_iff.mp e
    exact .lst (SqL.of q) (Rs.dp ds vs ps r e1)
  | .tup ds, v, p, h, e => by
    obtain ⟨a, vs, rfl, q, r⟩ := h
    have e : (toPs ds).map PyData.tuple = some p := e
    obtain ⟨ps, e1, rfl⟩ := Option.map_eq_some_iff.mp e
    exact .tup q (Rs.dp ds vs ps r e1)
  | .dct _, _, p, _, e => nomatch (show (none : Option PyData) = some p from e)
  | .obj _ _, _, p, _, e => nomatch (show (none : Option PyData) = some p from e)
  | .tok _, _, p, _, e => nomatch (show (none : Option PyData) = some p from e)
theorem Rs.dp : ∀ (ds : List D) (vs : List V) (ps : List PyData), Rs C θ H ds vs → toPs ds = some ps → DpAll C.K H vs ps
  | [], vs, ps, h, e => by
    cases (show vs = [] from h)
    cases (Option.some.inj (show some ([] : List PyData) = some ps from e))
    exact .nil
  | d :: ds, vs, ps, h, e => by
    obtain ⟨v, r, rfl, q, z⟩ := h
    have e : (match toP d, toPs ds with
      | some p, some ps => some (p :: ps)
      | _, _ => none) = some ps := e
    cases e1 : toP d with
    | none => rw [e1] at e; cases e
    | some p =>
      cases e2 : toPs ds with
      | none => rw [e1, e2] at e; cases e
      | some qs =>
        rw [e1, e2] at e
        cases e
        exact .cons (R.dp d v p q e1) (Rs.dp ds r qs z e2)
end
theorem Rs.length : ∀ {ds : List D} {vs : List V}, Rs C θ H ds vs → vs.length = ds.length
  | [], _, h => by cases (show _ = [] from h); rfl
  | d :: ds, vs, h => by
    obtain ⟨v, r, rfl, q, z⟩ := h
    simp [Rs.length z]
theorem Rs.get : ∀ {ds : List D} {vs : List V} {i : Nat} {d : D}, Rs C θ H ds vs → ds[i]? = some d → ∃ v, vs[i]? = some v ∧ R C θ H d v
  | [], _, _, _, _, e => by simp at e
  | d :: ds, vs, 0, _, h, e => by
    obtain ⟨v, r, rfl, q, z⟩ := h
    simp at e
    subst e
    exact ⟨v, rfl, q⟩
  | d :: ds, vs, i + 1, x, h, e => by
    obtain ⟨v, r, rfl, q, z⟩ := h
    obtain ⟨w, h1, h2⟩ := Rs.get (i := i) (d := x) z (by simpa using e)
    exact ⟨w, by simpa using h1, h2⟩
theorem Rs.app : ∀ {ds es : List D} {vs ws : List V}, Rs C θ H ds vs → Rs C θ H es ws → Rs C θ H (ds ++ es) (vs ++ ws)
  | [], _, _, _, h, z => by cases (show _ = [] from h); exact z
  | d :: ds, es, vs, ws, h, z => by
    obtain ⟨v, r, rfl, q, y⟩ := h
    exact ⟨v, r ++ ws, rfl, q, Rs.app y z⟩
end
end Ev
/-! Ev1 -/
namespace Ev
open PySem PySem.Spec PyProof.Rows L2

/-! ### the stream of draws -/
structure S8 where
  cells : List Int
  a : Int
  b : Int
  c : Int
abbrev Sst := Option S8
abbrev CallF := Str × Option Str → List D → Sst → Option (T × Sst)
abbrev Env := List (Option T)

/-! ### operations on data -/
def fits (n : Nat) : Bool := decide (n ≤ 16777216)
def pEq (a b : D) : Option Bool := match toP a, toP b with
  | some p, some q => if SeqAt.shaped p && SeqAt.shaped q then some (PyData.eqv p q) else none
  | _, _ => none
def pCmp (f : PyData → PyData → Bool) (a b : D) : Option Bool := match toP a, toP b with
  | some p, some q => if PySem.W.alike p q && !(PyData.eqv p .none) && decide (p.depth ≤ 64) then some (f p q) else none
  | _, _ => none
def pLt : D → D → Option Bool := pCmp PySem.W.dataLt
def keyEq (a b : D) : Bool := match toKey a, toKey b with
  | some p, some q => decide (p = q)
  | _, _ => false
def dLook (kvs : List (D × D)) (k : D) : Option D := (kvs.find? fun p => keyEq p.1 k).map (·.2)
def dPut (kvs : List (D × D)) (k v : D) : List (D × D) := if (kvs.any fun p => keyEq p.1 k) = true then kvs.map (fun p => if keyEq p.1 k = true then (p.1, v) else p) else kvs ++ [(k, v)]
/-- the keys of a dict, and one more, are all carried by value, or all tuples -/
def keysK (kvs : List (D × D)) (k : D) : Bool := (toKey k).isSome && kvs.all fun p => (toKey p.1).isSome
def inD (x c : D) : Option Bool := match c with
  | .lst ds => match toP x, toPs ds with
    | some p, some ps => if SeqAt.shaped p && SeqAt.shaped (.list ps) then some (ps.any fun z => PyData.eqv z p) else none
    | _, _ => none
  | .tup ds => match toP x, toPs ds with
    | some p, some ps => if SeqAt.shaped p && SeqAt.shaped (.list ps) then some (ps.any fun z => PyData.eqv z p) else none
    | _, _ => none
  | .dct kvs => if keysK kvs x then some (dLook kvs x).isSome else none
  | .str z => match x with
    | .str y => if y.cps.size = 1 then some (decide ((y.cps.toList.headD 0) ∈ z.cps.toList)) else none
    | _ => none
  | _ => none
def cmpD (op : CmpOp) (a b : D) : Option Bool := match op with
  | .Eq => pEq a b
  | .NotEq => (pEq a b).map (!·)
  | .Lt => pLt a b
  | .Gt => pCmp (fun p q => PySem.W.dataLt q p) a b
  | .LtE => pCmp (fun p q => !PySem.W.dataLt q p) a b
  | .GtE => pCmp (fun p q => !PySem.W.dataLt p q) a b
  | .In => inD a b
  | .NotIn => (inD a b).map (!·)
  | _ => none
def cMul (i j : Int) : Bool := (decide (-(2 ^ 64) < i) && decide (i < 2 ^ 64)) || (decide (-(2 ^ 64) < j) && decide (j < 2 ^ 64))
def cDiv (j : Int) : Bool := !decide (j = 0) && decide (j.natAbs < 1073741824)
def cPow (i j : Int) : Bool := decide (0 ≤ j) && decide (j ≤ 1000000) && decide (i.natAbs < 2 ^ 64)
def binD (op : Operator) (a b : D) : Option D := match op with
  | .Add => match a, b with
    | .int i, .int j => some (.int (i + j))
    | .str x, .str y => if fits (x.length + y.length) then some (.str (x ++ y)) else none
    | .lst xs, .lst ys => if fits (xs.length + ys.length) then some (.lst (xs ++ ys)) else none
    | .tup xs, .tup ys => if fits (xs.length + ys.length) then some (.tup (xs ++ ys)) else none
    | _, _ => none
  | .Sub => match a, b with
    | .int i, .int j => some (.int (i - j))
    | _, _ => none
  | .Mult => match a, b with
    | .int i, .int j => if cMul i j then some (.int (i * j)) else none
    | _, _ => none
  | .Mod => match a, b with
    | .int i, .int j => if j = 0 then none else some (.int (i.fmod j))
    | _, _ => none
  | .Pow => match a, b with
    | .int i, .int j => if cPow i j then some (.int (i ^ j.toNat)) else none
    | _, _ => none
  | .FloorDiv => match a, b with
    | .int i, .int j => if cDiv j then some (.int (i.fdiv j)) else none
    | _, _ => none
  | _ => none
def subD (c i : D) : Option D := match c with
  | .lst ds => match i with
    | .int i => atI ds i
    | _ => none
  | .tup ds => match i with
    | .int i => atI ds i
    | _ => none
  | .str s => match i with
    | .int i => if fits s.length then (atI s.cps.toList i).map (fun c => .str ⟨#[c]⟩) else none
    | _ => none
  | .dct kvs => if keysK kvs i then dLook kvs i else none
  | _ => none
/-- .. of the stream -/
def subS (st : Sst) (c i : D) : Option D := match c with
  | .tok n => if n = 0 then (match st with
    | some s => (match i with
      | .int k => if k = 1 then some (.int s.a) else if k = 2 then some (.int s.b) else if k = 3 then some (.int s.c) else none
      | _ => none)
    | none => none) else none
  | c => subD c i
def putS (st : Sst) (k v : D) : Option Sst := match st with
  | some s => (match k with
    | .int k => (match v with
      | .int v => if k = 1 then some (some { s with a := v }) else if k = 2 then some (some { s with b := v }) else if k = 3 then some (some { s with c := v }) else none
      | _ => none)
    | _ => none)
  | none => none
def cutG {α : Type} (xs : List α) (lo hi : Option Int) : List α := List.take (HT.sIx xs.length xs.length hi - HT.sIx xs.length 0 lo) (List.drop (HT.sIx xs.length 0 lo) xs)
def cutD (c : D) (lo hi : Option Int) : Option D := match c with
  | .lst ds => some (.lst (cutG ds lo hi))
  | .tup ds => some (.tup (cutG ds lo hi))
  | .str s => if fits s.length then some (.str (cutS s lo hi)) else none
  | _ => none

/-! ### the own small language -/
inductive Tg where
  | n (i : Nat)
  | t (ts : List Tg)
inductive Bi where
  | len | sorted | list | tuple | all | any | min | max | int | abs | dict | str | sum
  deriving DecidableEq
inductive Im where
  | of | range1 | range2 | enum | zip | items | values
  deriving DecidableEq
inductive Ir where
  | v (i : Nat)
  | k (d : D)
  | lst (es : List (Bool × Ir))
  | tup (es : List (Bool × Ir))
  | dct (kvs : List (Ir × Ir))
  | bin (op : Operator) (a b : Ir)
  | cmp (op : CmpOp) (a b : Ir)
  | chain (op op' : CmpOp) (a b c : Ir)
  | isN (a : Ir)
  | notN (a : Ir)
  | and (a b : Ir)
  | or (a b : Ir)
  | not (a : Ir)
  | ite (c a b : Ir)
  | neg (a : Ir)
  | sub (a i : Ir)
  | cut (a : Ir) (lo hi : Option Ir)
  | fld (a : Ir) (f : Str) (cs : List Str)
  | call (g : Str) (as : List Ir) (ord : List Nat)
  | new (c : Str) (as : List Ir)
  | meth (m : Str) (o : Ir) (as : List Ir)
  | bi (b : Bi) (as : List Ir)
  | isi (a : Ir) (ts cs : List Str)
  | spop (i : Nat)
  | ncells (i : Nat)
  | join (s a : Ir)
  | lc (own : List Nat) (tg : Tg) (im : Im) (its : List Ir) (ifs : List Ir) (elt : Ir)
  | dc (own : List Nat) (tg : Tg) (im : Im) (its : List Ir) (ifs : List Ir) (ke ve : Ir)
inductive Is where
  | set (tg : Tg) (e : Ir)
  | par (xs : List Nat) (es : List Ir)
  | put (x : Nat) (i e : Ir)
  | dead
  | app (x : Nat) (e : Ir)
  | ext (x : Nat) (e : Ir)
  | upd (x : Nat) (e : Ir)
  | pop (y x : Nat)
  | popAt (y x : Nat) (i : Ir)
  | appPop (y x : Nat) (i : Ir)
  | ex (e : Ir)
  | iff (c : Ir) (a b : List Is)
  | for (tg : Tg) (im : Im) (its : List Ir) (body : List Is)
  | whl (c : Ir) (body : List Is)
  | ret (e : Ir)
  | retN
  | brk
  | cont
  | pass

/-! ### what it comes to -/
def T.b : T → D := T.er
/-- a name in the place of a value: data that never change -/
def useV (env : Env) (i : Nat) : Option D := match env[i]? with
  | some (some (.fz d)) => some d
  | _ => none
/-- a name that is only looked at -/
def lookV (env : Env) (i : Nat) : Option D := match env[i]? with
  | some (some t) => some t.er
  | _ => none
def isTok (env : Env) (i : Nat) : Bool := match lookV env i with
  | some (.tok n) => decide (n = 0)
  | _ => false
mutual
def bindT (tg : Tg) (d : D) (env : Env) : Option Env := match tg with
  | .n i => if i < env.length then some (env.set i (some (.fz d))) else none
  | .t ts => match d with
    | .tup ds => if ds.length = ts.length then bindTs ts ds env else none
    | .lst ds => if ds.length = ts.length then bindTs ts ds env else none
    | _ => none
def bindTs (tgs : List Tg) (ds : List D) (env : Env) : Option Env := match tgs with
  | [] => some env
  | tg :: r => match ds with
    | d :: ds => match bindT tg d env with
      | some env' => bindTs r ds env'
      | none => none
    | [] => none
end
def wipeE (env : Env) (own : List Nat) : Env := env.mapIdx fun i t => if own.contains i then none else t
def isiD (cs : List Str) (d : D) (t : Str) : Option Bool := match d with
  | .non => some false
  | .bl _ => some (t == "bool" || t == "int")
  | .int _ => some (t == "int")
  | .str _ => some (t == "str")
  | .lst _ => some (t == "list")
  | .tup _ => some (t == "tuple")
  | .dct _ => some (t == "dict")
  | .obj c _ => if cs.contains c then some (t == c) else none
  | .tok _ => none
def isiAny (cs : List Str) (d : D) : List Str → Option Bool
  | [] => some false
  | t :: ts => match isiD cs d t with
    | some true => some true
    | some false => isiAny cs d ts
    | none => none
def itemsOf (d : D) : Option (List D) := match d with
  | .lst ds => some ds
  | .tup ds => some ds
  | .dct kvs => some (kvs.map (·.1))
  | .str s => some (s.cps.toList.map fun c => .str ⟨#[c]⟩)
  | _ => none
def seqOf (d : D) : Option (List D) := match d with
  | .lst ds => some ds
  | .tup ds => some ds
  | _ => none
def bools : List D → Option (List Bool)
  | [] => some []
  | .bl b :: r => match bools r with
    | some bs => some (b :: bs)
    | none => none
  | _ => none
def encD (d : D) : PyData := (toP d).getD .none
def alikeB (ps : List PyData) : Bool := ps.all fun p => ps.all fun q => PySem.W.alike p q
def nonB (p : PyData) : Bool := match p with
  | .none => true
  | _ => false
def tupB1 (p : PyData) : Bool := match p with
  | .tuple (_ :: _) => true
  | _ => false
def othB (p : PyData) : Bool := match p with
  | .none => false
  | .tuple _ => false
  | _ => true
/-- lists of data in the order of Python's <, one stable list -/
def sortD (ds : List D) : Option (List D) := match toPs ds with
  | some ps => if alikeB ps && ps.all (fun p => decide (p.depth ≤ 64)) && (ps.all tupB1 || ps.all othB) && fits ds.length
    then some (ds.mergeSort (PySem.W.dataLe false encD)) else none
  | none => none
def ofS (p : PyData) : Option D := match p with
  | .int i => some (.int i)
  | .str s => some (.str s)
  | _ => none
def bestD (f : PyData → List PyData → PyData) (ds : List D) : Option D := match toPs ds with
  | some (p :: ps) => if alikeB (p :: ps) && (p :: ps).all (fun p => !nonB p) && decide (PyData.depthAll (p :: ps) ≤ 64) then ofS (f p ps) else none
  | _ => none
def ltS (a b : Str) : Bool := decide (a.cps.toList < b.cps.toList)
def txts : List D → Option (List Str)
  | [] => some []
  | .str s :: r => match txts r with
    | some ss => some (s :: ss)
    | none => none
  | _ => none
def putAll : List (D × D) → List D → Option (List (D × D))
  | acc, [] => some acc
  | acc, .tup [k, v] :: r => if keysK acc k then putAll (dPut acc k v) r else none
  | _, _ => none
def biD (b : Bi) (as : List D) : Option D := match b with
  | .len => match as with
    | [.lst ds] => some (.int ds.length)
    | [.tup ds] => some (.int ds.length)
    | [.dct ds] => some (.int ds.length)
    | [.str s] => if fits s.length then some (.int s.length) else none
    | _ => none
  | .sorted => match as with
    | [.lst ds] => (sortD ds).map .lst
    | [.tup ds] => (sortD ds).map .lst
    | _ => none
  | .list => match as with
    | [.lst ds] => some (.lst ds)
    | [.tup ds] => some (.lst ds)
    | _ => none
  | .tuple => match as with
    | [.lst ds] => some (.tup ds)
    | [.tup ds] => some (.tup ds)
    | _ => none
  | .all => match as with
    | [.lst ds] => (bools ds).map fun bs => .bl (bs.all id)
    | _ => none
  | .any => match as with
    | [.lst ds] => (bools ds).map fun bs => .bl (bs.any id)
    | _ => none
  | .min => match as with
    | [.lst ds] => bestD PySem.W.minD ds
    | [.tup ds] => bestD PySem.W.minD ds
    | [.int i, .int j] => some (.int (if j < i then j else i))
    | [.str i, .str j] => some (.str (if ltS j i then j else i))
    | _ => none
  | .max => match as with
    | [.lst ds] => bestD PySem.W.maxD ds
    | [.tup ds] => bestD PySem.W.maxD ds
    | [.int i, .int j] => some (.int (if j > i then j else i))
    | [.str i, .str j] => some (.str (if ltS i j then j else i))
    | _ => none
  | .int => match as with
    | [.int i] => some (.int i)
    | [.bl b] => some (.int (if b then 1 else 0))
    | _ => none
  | .abs => match as with
    | [.int i] => some (.int (if i < 0 then -i else i))
    | _ => none
  | .dict => match as with
    | [.lst ds] => if fits ds.length then (putAll [] ds).map .dct else none
    | _ => none
  | _ => none
def rangeD (lo hi : Int) : Option (List D) := if decide (-(2 ^ 62) ≤ lo) && decide (lo < 2 ^ 62) && decide (-(2 ^ 62) ≤ hi) && decide (hi < 2 ^ 62) then some ((List.range (hi - lo).toNat).map fun i => .int (lo + (i : Nat))) else none
def strOf (s : Str) : List D := s.cps.toList.map fun c => .str ⟨#[c]⟩
def itD (im : Im) (as : List D) : Option (List D) := match im with
  | .of => match as with
    | [.lst ds] => some ds
    | [.tup ds] => some ds
    | [.str s] => some (strOf s)
    | _ => none
  | .range1 => match as with
    | [.int n] => rangeD 0 n
    | _ => none
  | .range2 => match as with
    | [.int m, .int n] => rangeD m n
    | _ => none
  | .enum => match as with
    | [.lst ds] => some (ds.mapIdx fun i d => .tup [.int i, d])
    | [.tup ds] => some (ds.mapIdx fun i d => .tup [.int i, d])
    | _ => none
  | .zip => match as with
    | [.lst xs, .lst ys] => some (List.zipWith (fun x y => .tup [x, y]) xs ys)
    | [.tup xs, .tup ys] => some (List.zipWith (fun x y => .tup [x, y]) xs ys)
    | _ => none
  | _ => none
def pickA {α : Type} (ds : List α) : List Nat → Option (List α)
  | [] => some []
  | i :: r => match ds[i]?, pickA ds r with
    | some d, some q => some (d :: q)
    | _, _ => none
def dctOf : List (D × D) → List D → List D → Option (List (D × D))
  | acc, [], [] => some acc
  | acc, k :: ks, v :: vs => if keysK acc k then dctOf (dPut acc k v) ks vs else none
  | _, _, _ => none

/-! ### running -/
def brw (env : Env) (e : Ir) (st : Sst) (r : Option (D × Sst)) : Option (D × Sst) := match e with
  | .v i => match lookV env i with
    | some d => some (d, st)
    | none => none
  | _ => r
def lcGo (bd : D → Option Env) (tst : Env → Sst → Option (Bool × Sst)) (el : Env → Sst → Option (D × Sst)) : List D → Sst → Option (List D × Sst)
  | [], st => some ([], st)
  | x :: xs, st => match bd x with
    | none => none
    | some env => match tst env st with
      | none => none
      | some (false, st1) => lcGo bd tst el xs st1
      | some (true, st1) => match el env st1 with
        | none => none
        | some (d, st2) => match lcGo bd tst el xs st2 with
          | none => none
          | some (ds, st3) => some (d :: ds, st3)
def dcGo (bd : D → Option Env) (tst : Env → Sst → Option (Bool × Sst)) (ke ve : Env → Sst → Option (D × Sst)) : List D → List (D × D) → Sst → Option (List (D × D) × Sst)
  | [], acc, st => some (acc, st)
  | x :: xs, acc, st => match bd x with
    | none => none
    | some env => match tst env st with
      | none => none
      | some (false, st1) => dcGo bd tst ke ve xs acc st1
      | some (true, st1) => match ke env st1 with
        | none => none
        | some (k, st2) => match ve env st2 with
          | none => none
          | some (v, st3) => if keysK acc k && fits (acc.length + 1) then dcGo bd tst ke ve xs (dPut acc k v) st3 else none
def methD (m : Str) (o : D) (as : List D) : Option D := match o with
  | .lst ds => if m == "index" then (match as with
      | [x] => match pidx x ds 0 with
        | some i => some (.int i)
        | none => none
      | _ => none) else none
  | _ => none
where pidx (x : D) : List D → Nat → Option Nat
  | [], _ => none
  | d :: ds, i => match pEq d x with
    | some true => some i
    | some false => pidx x ds (i + 1)
    | none => none
def joinD (s a : D) : Option D := match s, a with
  | .str z, .lst ds => match txts ds with
    | some ss => if fits ((ss.map (·.length)).sum + ss.length * z.length) then some (.str (Txt.join z ss)) else none
    | none => none
  | _, _ => none
def asInt? (d : D) : Option Int := match d with
  | .int i => some i
  | _ => none
mutual
def evI (cf : CallF) (env : Env) (e : Ir) (st : Sst) : Option (D × Sst) := match e with
  | .v i => match useV env i with
    | some d => some (d, st)
    | none => none
  | .k d => some (d, st)
  | .lst es => match evS cf env es st with
    | some (ds, st1) => if fits ds.length then some (.lst ds, st1) else none
    | none => none
  | .tup es => match evS cf env es st with
    | some (ds, st1) => if fits ds.length then some (.tup ds, st1) else none
    | none => none
  | .dct kvs => match evKV cf env kvs st with
    | some (ks, vs, st1) => match dctOf [] ks vs with
      | some kvs => some (.dct kvs, st1)
      | none => none
    | none => none
  | .bin op a b => match brw env a st (evI cf env a st) with
    | none => none
    | some (x, st1) => match brw env b st1 (evI cf env b st1) with
      | none => none
      | some (y, st2) => match binD op x y with
        | some z => some (z, st2)
        | none => none
  | .cmp op a b => match brw env a st (evI cf env a st) with
    | none => none
    | some (x, st1) => match brw env b st1 (evI cf env b st1) with
      | none => none
      | some (y, st2) => match cmpD op x y with
        | some z => some (.bl z, st2)
        | none => none
  | .chain op op' a b c => match brw env a st (evI cf env a st) with
    | none => none
    | some (x, st1) => match brw env b st1 (evI cf env b st1) with
      | none => none
      | some (y, st2) => match cmpD op x y with
        | none => none
        | some false => some (.bl false, st2)
        | some true => match brw env c st2 (evI cf env c st2) with
          | none => none
          | some (z, st3) => match cmpD op' y z with
            | some w => some (.bl w, st3)
            | none => none
  | .isN a => match brw env a st (evI cf env a st) with
    | some (.non, st1) => some (.bl true, st1)
    | some (_, st1) => some (.bl false, st1)
    | none => none
  | .notN a => match brw env a st (evI cf env a st) with
    | some (.non, st1) => some (.bl false, st1)
    | some (_, st1) => some (.bl true, st1)
    | none => none
  | .and a b => match evI cf env a st with
    | some (.bl true, st1) => evI cf env b st1
    | some (.bl false, st1) => some (.bl false, st1)
    | _ => none
  | .or a b => match evI cf env a st with
    | some (.bl false, st1) => evI cf env b st1
    | some (.bl true, st1) => some (.bl true, st1)
    | _ => none
  | .not a => match evI cf env a st with
    | some (.bl b, st1) => some (.bl (!b), st1)
    | _ => none
  | .ite c a b => match evI cf env c st with
    | some (.bl true, st1) => evI cf env a st1
    | some (.bl false, st1) => evI cf env b st1
    | _ => none
  | .neg a => match evI cf env a st with
    | some (.int i, st1) => some (.int (-i), st1)
    | _ => none
  | .sub a i => match brw env a st (evI cf env a st) with
    | none => none
    | some (x, st1) => match evI cf env i st1 with
      | none => none
      | some (y, st2) => match subS st2 x y with
        | some z => some (z, st2)
        | none => none
  | .cut a lo hi => match brw env a st (evI cf env a st) with
    | none => none
    | some (x, st1) => match evO cf env lo st1 with
      | none => none
      | some (l, st2) => match evO cf env hi st2 with
        | none => none
        | some (h, st3) => match cutD x l h with
          | some z => some (z, st3)
          | none => none
  | .fld a f cs => match brw env a st (evI cf env a st) with
    | some (.obj c fs, st1) => if cs.contains c then (match fs.lookup f with
      | some d => some (d, st1)
      | none => none) else none
    | _ => none
  | .call g as ord => match evL cf env as st with
    | none => none
    | some (ds, st1) => match pickA ds ord with
      | none => none
      | some ps => match cf (g, none) ps st1 with
        | some (t, st2) => some (t.er, st2)
        | none => none
  | .new c as => match evL cf env as st with
    | none => none
    | some (ds, st1) => match cf (c, some "__init__") ds st1 with
      | some (t, st2) => some (t.er, st2)
      | none => none
  | .meth _ _ _ => none
  | .bi b as => match evLB cf env as st with
    | none => none
    | some (ds, st1) => match biD b ds with
      | some d => some (d, st1)
      | none => none
  | .isi a ts cs => match brw env a st (evI cf env a st) with
    | none => none
    | some (x, st1) => match isiAny cs x ts with
      | some b => some (.bl b, st1)
      | none => none
  | .spop i => if isTok env i = true then (match st with
    | some s => (match s.cells with
      | c :: r => if fits s.cells.length then some (.int c, some { s with cells := r }) else none
      | [] => none)
    | none => none) else none
  | .ncells i => if isTok env i = true then (match st with
    | some s => some (.bl (!s.cells.isEmpty), st)
    | none => none) else none
  | .join s a => match evI cf env s st with
    | none => none
    | some (x, st1) => match brw env a st1 (evI cf env a st1) with
      | none => none
      | some (y, st2) => match joinD x y with
        | some d => some (d, st2)
        | none => none
  | .lc own tg im its ifs elt => match evLB cf env its st with
    | none => none
    | some (ds, st1) => match itD im ds with
      | none => none
      | some xs => match lcGo (fun d => bindT tg d (wipeE env own)) (fun env' s => evT cf env' ifs s) (fun env' s => evI cf env' elt s) xs st1 with
        | some (rs, st2) => if fits rs.length then some (.lst rs, st2) else none
        | none => none
  | .dc own tg im its ifs ke ve => match evLB cf env its st with
    | none => none
    | some (ds, st1) => match itD im ds with
      | none => none
      | some xs => match dcGo (fun d => bindT tg d (wipeE env own)) (fun env' s => evT cf env' ifs s) (fun env' s => evI cf env' ke s) (fun env' s => evI cf env' ve s) xs [] st1 with
        | some (rs, st2) => some (.dct rs, st2)
        | none => none
/-- a display's items, stars taken apart -/
def evS (cf : CallF) (env : Env) (es : List (Bool × Ir)) (st : Sst) : Option (List D × Sst) := match es with
  | [] => some ([], st)
  | (false, e) :: r => match evI cf env e st with
    | none => none
    | some (d, st1) => match evS cf env r st1 with
      | some (ds, st2) => some (d :: ds, st2)
      | none => none
  | (true, e) :: r => match brw env e st (evI cf env e st) with
    | none => none
    | some (d, st1) => match seqOf d with
      | none => none
      | some xs => match evS cf env r st1 with
        | some (ds, st2) => some (xs ++ ds, st2)
        | none => none
def evL (cf : CallF) (env : Env) (es : List Ir) (st : Sst) : Option (List D × Sst) := match es with
  | [] => some ([], st)
  | e :: r => match evI cf env e st with
    | none => none
    | some (d, st1) => match evL cf env r st1 with
      | some (ds, st2) => some (d :: ds, st2)
      | none => none
def evLB (cf : CallF) (env : Env) (es : List Ir) (st : Sst) : Option (List D × Sst) := match es with
  | [] => some ([], st)
  | e :: r => match brw env e st (evI cf env e st) with
    | none => none
    | some (d, st1) => match evLB cf env r st1 with
      | some (ds, st2) => some (d :: ds, st2)
      | none => none
/-- a display's keys and values, in turn -/
def evKV (cf : CallF) (env : Env) (kvs : List (Ir × Ir)) (st : Sst) : Option (List D × List D × Sst) := match kvs with
  | [] => some ([], [], st)
  | (k, v) :: r => match evI cf env k st with
    | none => none
    | some (x, st1) => match evI cf env v st1 with
      | none => none
      | some (y, st2) => match evKV cf env r st2 with
        | some (xs, ys, st3) => some (x :: xs, y :: ys, st3)
        | none => none
def evT (cf : CallF) (env : Env) (es : List Ir) (st : Sst) : Option (Bool × Sst) := match es with
  | [] => some (true, st)
  | e :: r => match evI cf env e st with
    | some (.bl true, st1) => evT cf env r st1
    | some (.bl false, st1) => some (false, st1)
    | _ => none
def evO (cf : CallF) (env : Env) (e : Option Ir) (st : Sst) : Option (Option Int × Sst) := match e with
  | none => some (none, st)
  | some e => match evI cf env e st with
    | some (.int i, st1) => some (some i, st1)
    | _ => none
end
end Ev
/-! Ev2 -/
namespace Ev
open PySem PySem.Spec PyProof.Rows L2

/-! ### names in the place of a value: their things are frozen ahead of a statement -/
mutual
def us (e : Ir) : List Nat := match e with
  | .v i => [i]
  | .k _ => []
  | .lst es => usS es
  | .tup es => usS es
  | .dct kvs => usK kvs
  | .bin _ a b => usB a (us a) ++ usB b (us b)
  | .cmp _ a b => usB a (us a) ++ usB b (us b)
  | .chain _ _ a b c => usB a (us a) ++ (usB b (us b) ++ usB c (us c))
  | .isN a => usB a (us a)
  | .notN a => usB a (us a)
  | .and a b => us a ++ us b
  | .or a b => us a ++ us b
  | .not a => us a
  | .ite c a b => us c ++ (us a ++ us b)
  | .neg a => us a
  | .sub a i => usB a (us a) ++ us i
  | .cut a lo hi => usB a (us a) ++ (usO lo ++ usO hi)
  | .fld a _ _ => usB a (us a)
  | .call _ as _ => usL as
  | .new _ as => usL as
  | .meth _ o as => usB o (us o) ++ usL as
  | .bi _ as => usLB as
  | .isi a _ _ => usB a (us a)
  | .spop _ => []
  | .ncells _ => []
  | .join s a => us s ++ usB a (us a)
  | .lc own _ _ its ifs elt => usLB its ++ (usL ifs ++ us elt).filter (fun i => !own.contains i)
  | .dc own _ _ its ifs ke ve => usLB its ++ (usL ifs ++ (us ke ++ us ve)).filter (fun i => !own.contains i)
def usB (e : Ir) (r : List Nat) : List Nat := match e with
  | .v _ => []
  | _ => r
def usS (es : List (Bool × Ir)) : List Nat := match es with
  | [] => []
  | (false, e) :: r => us e ++ usS r
  | (true, e) :: r => usB e (us e) ++ usS r
def usL (es : List Ir) : List Nat := match es with
  | [] => []
  | e :: r => us e ++ usL r
def usLB (es : List Ir) : List Nat := match es with
  | [] => []
  | e :: r => usB e (us e) ++ usLB r
def usK (es : List (Ir × Ir)) : List Nat := match es with
  | [] => []
  | (a, b) :: r => us a ++ (us b ++ usK r)
def usO (e : Option Ir) : List Nat := match e with
  | none => []
  | some e => us e
end
def fzT (t : T) : T := .fz t.er
def frz (is : List Nat) (env : Env) : Env := env.mapIdx fun i t => if is.contains i then t.map fzT else t

/-! ### statements -/
inductive Fl where
  | nx | rt (t : T) | bk | ct
/-- what a fresh value is to its only holder -/
def ownT (e : Ir) (d : D) : T := match e with
  | .lst _ | .lc .. | .dct _ | .dc .. | .bi .sorted _ | .bi .list _ | .bi .dict _ | .bin .Add _ _ | .cut .. => (match d with
    | .lst ds => .ol ds
    | .dct kvs => .od kvs
    | d => .fz d)
  | _ => .fz d
/-- at a statement's top -/
def evTop (cf : CallF) (env : Env) (e : Ir) (st : Sst) : Option (T × Sst) := match e with
  | .call g as ord => match evL cf env as st with
    | none => none
    | some (ds, st1) => match pickA ds ord with
      | none => none
      | some ps => cf (g, none) ps st1
  | e => match evI cf env e st with
    | some (d, st1) => some (ownT e d, st1)
    | none => none
def evTops (cf : CallF) (env : Env) : List Ir → Sst → Option (List T × Sst)
  | [], st => some ([], st)
  | e :: r, st => match evTop cf env e st with
    | none => none
    | some (t, st1) => match evTops cf env r st1 with
      | some (ts, st2) => some (t :: ts, st2)
      | none => none
def setAll (env : Env) : List Nat → List T → Option Env
  | [], [] => some env
  | x :: xs, t :: ts => if x < env.length then setAll (env.set x (some t)) xs ts else none
  | _, _ => none
def getL (env : Env) (x : Nat) : Option (List D) := match env[x]? with
  | some (some (.ol ds)) => some ds
  | _ => none
def getD' (env : Env) (x : Nat) : Option (List (D × D)) := match env[x]? with
  | some (some (.od ds)) => some ds
  | _ => none
def forGo (bd : D → Env → Option Env) (body : Env → Sst → Option (Fl × Env × Sst)) : List D → Env → Sst → Option (Fl × Env × Sst)
  | [], env, st => some (.nx, env, st)
  | x :: xs, env, st => match bd x env with
    | none => none
    | some env1 => match body env1 st with
      | some (.nx, env2, st2) => forGo bd body xs env2 st2
      | some (.ct, env2, st2) => forGo bd body xs env2 st2
      | some (.bk, env2, st2) => some (.nx, env2, st2)
      | some (.rt t, env2, st2) => some (.rt t, env2, st2)
      | none => none
def whlN (c : Env → Sst → Option (D × Sst)) (body : Env → Sst → Option (Fl × Env × Sst)) : Nat → Env → Sst → Option (Fl × Env × Sst)
  | 0, _, _ => none
  | n + 1, env, st => match c env st with
    | some (.bl false, st1) => some (.nx, env, st1)
    | some (.bl true, st1) => (match body env st1 with
      | some (.nx, env2, st2) => whlN c body n env2 st2
      | some (.ct, env2, st2) => whlN c body n env2 st2
      | some (.bk, env2, st2) => some (.nx, env2, st2)
      | some (.rt t, env2, st2) => some (.rt t, env2, st2)
      | none => none)
    | _ => none
open Classical in
noncomputable def whlD (c : Env → Sst → Option (D × Sst)) (body : Env → Sst → Option (Fl × Env × Sst)) (env : Env) (st : Sst) : Option (Fl × Env × Sst) :=
  if h : ∃ n r, whlN c body n env st = some r then some h.choose_spec.choose else none
mutual
noncomputable def exS (cf : CallF) (s : Is) (env : Env) (st : Sst) : Option (Fl × Env × Sst) := match s with
  | .set tg e => match evTop cf (frz (us e) env) e st with
    | none => none
    | some (t, st1) => match tg with
      | .n i => if i < env.length then some (.nx, (frz (us e) env).set i (some t), st1) else none
      | tg => match bindT tg t.er (frz (us e) env) with
        | some env1 => some (.nx, env1, st1)
        | none => none
  | .par xs es => match evTops cf (frz (usL es) env) es st with
    | none => none
    | some (ts, st1) => match setAll (frz (usL es) env) xs ts with
      | some env1 => some (.nx, env1, st1)
      | none => none
  | .put x i e => match evI cf (frz (us e ++ us i) env) e st with
    | none => none
    | some (v, st1) => match evI cf (frz (us e ++ us i) env) i st1 with
      | none => none
      | some (k, st2) => match getD' (frz (us e ++ us i) env) x with
        | some kvs => if keysK kvs k && fits (kvs.length + 1) then some (.nx, (frz (us e ++ us i) env).set x (some (.od (dPut kvs k v))), st2) else none
        | none => match getL (frz (us e ++ us i) env) x with
          | none => if isTok (frz (us e ++ us i) env) x = true then (match putS st2 k v with
            | some st3 => some (.nx, frz (us e ++ us i) env, st3)
            | none => none) else none
          | some ds => match asInt? k with
            | some j => match ixN ds.length j with
              | some m => some (.nx, (frz (us e ++ us i) env).set x (some (.ol (ds.set m v))), st2)
              | none => none
            | none => none
  | .dead => none
  | .app x e => match evI cf (frz (us e) env) e st with
    | none => none
    | some (d, st1) => match getL (frz (us e) env) x with
      | some ds => if fits (ds.length + 1) then some (.nx, (frz (us e) env).set x (some (.ol (ds ++ [d]))), st1) else none
      | none => none
  | .ext x e => match brw (frz (usB e (us e)) env) e st (evI cf (frz (usB e (us e)) env) e st) with
    | none => none
    | some (d, st1) => match getL (frz (usB e (us e)) env) x with
      | some ds => (match d with
        | .lst es => if fits (ds.length + es.length) then some (.nx, (frz (usB e (us e)) env).set x (some (.ol (ds ++ es))), st1) else none
        | _ => none)
      | none => none
  | .upd x e => match evI cf (frz (us e) env) e st with
    | none => none
    | some (d, st1) => match getD' (frz (us e) env) x with
      | some kvs => (match d with
        | .dct more => if more.all (fun p => keysK kvs p.1) && fits (kvs.length + more.length) then some (.nx, (frz (us e) env).set x (some (.od (more.foldl (fun a p => dPut a p.1 p.2) kvs))), st1) else none
        | _ => none)
      | none => none
  | .pop y x => match getL env x with
    | some ds => match ds.getLast? with
      | some d => if y < env.length then some (.nx, (env.set x (some (.ol ds.dropLast))).set y (some (.fz d)), st) else none
      | none => none
    | none => none
  | .popAt y x i => match evI cf (frz (us i) env) i st with
    | none => none
    | some (k, st1) => match getL (frz (us i) env) x with
      | some ds => match asInt? k with
        | some j => match ixN ds.length j with
          | some m => match ds[m]? with
            | some d => if decide (y < env.length) && fits ds.length then some (.nx, ((frz (us i) env).set x (some (.ol (ds.eraseIdx m)))).set y (some (.fz d)), st1) else none
            | none => none
          | none => none
        | none => none
      | none => none
  | .appPop y x i => match evI cf (frz (us i) env) i st with
    | none => none
    | some (k, st1) => if x = y then none else match getL (frz (us i) env) x with
      | some ds => match asInt? k with
        | some j => match ixN ds.length j with
          | some m => match ds[m]? with
            | some d => match getL (frz (us i) env) y with
              | some es => if fits (es.length + 1) && fits ds.length then some (.nx, ((frz (us i) env).set x (some (.ol (ds.eraseIdx m)))).set y (some (.ol (es ++ [d]))), st1) else none
              | none => none
            | none => none
          | none => none
        | none => none
      | none => none
  | .ex e => match evTop cf (frz (us e) env) e st with
    | some (_, st1) => some (.nx, frz (us e) env, st1)
    | none => none
  | .iff c a b => match evI cf (frz (us c) env) c st with
    | some (.bl true, st1) => exB cf a (frz (us c) env) st1
    | some (.bl false, st1) => exB cf b (frz (us c) env) st1
    | _ => none
  | .for tg im its body => match evL cf (frz (usL its) env) its st with
    | none => none
    | some (ds, st1) => match itD im ds with
      | none => none
      | some xs => forGo (fun d env => bindT tg d env) (fun env st => exB cf body env st) xs (frz (usL its) env) st1
  | .whl c body => whlD (fun env st => if us c = [] then evI cf env c st else none) (fun env st => exB cf body env st) env st
  | .ret e => match e with
    | .v i => match env[i]? with
      | some (some t) => some (.rt t, env, st)
      | _ => none
    | e => match evTop cf (frz (us e) env) e st with
      | some (t, st1) => some (.rt t, frz (us e) env, st1)
      | none => none
  | .retN => some (.rt (.fz .non), env, st)
  | .brk => some (.bk, env, st)
  | .cont => some (.ct, env, st)
  | .pass => some (.nx, env, st)
noncomputable def exB (cf : CallF) (b : List Is) (env : Env) (st : Sst) : Option (Fl × Env × Sst) := match b with
  | [] => some (.nx, env, st)
  | s :: r => match exS cf s env st with
    | some (.nx, env1, st1) => exB cf r env1 st1
    | some (f, env1, st1) => some (f, env1, st1)
    | none => none
end

/-! ### calls -/
structure FnI where
  np : Nat
  ns : Nat
  body : List Is
noncomputable def runFn (cf : CallF) (f : FnI) (as : List D) (st : Sst) : Option (T × Sst) :=
  match exB cf f.body (as.map (fun d => some (T.fz d)) ++ List.replicate (f.ns - as.length) none) st with
  | some (.rt t, _, st1) => some (t, st1)
  | some (.nx, _, st1) => some (.fz .non, st1)
  | _ => none
abbrev PrimF := Nat → Str × Option Str → Option (List D → Sst → Option (T × Sst))
noncomputable def callF (tb : Str × Option Str → Option FnI) (pr : PrimF) : Nat → CallF
  | 0, _, _, _ => none
  | k + 1, g, as, st => match pr k g with
    | some p => p as st
    | none => match tb g with
      | some f => if as.length = f.np then runFn (callF tb pr k) f as st else none
      | none => none
end Ev
/-! Ev3 -/
namespace Ev
open PySem PySem.Spec PyProof.Rows L2

/-! ### from Python's text to the small language -/
structure Gi where
  fns : List (Str × (List Str × List (Nat × List Str)))
  cls : List (Str × (List Str × List (Nat × List Str)))
  cst : List (Str × D)
  fld : List (Str × List Str)
def ix (N : List Str) (x : Str) : Option Nat := N.findIdx? (fun y => y == x)
def visB (sc : Scope) (x : Str) : Bool := match sc.names.lookup x with
  | some .local => true
  | some .cell => true
  | some .free => true
  | _ => false
def locB (sc : Scope) (x : Str) : Bool := match sc.names.lookup x with
  | some .local => true
  | some .cell => true
  | _ => false
def glB (sc : Scope) (x : Str) : Bool := match sc.names.lookup x with
  | some .globalImplicit => true
  | _ => false
def mapO {α β : Type} (f : α → Option β) : List α → Option (List β)
  | [] => some []
  | a :: r => match f a, mapO f r with
    | some b, some bs => some (b :: bs)
    | _, _ => none
def bis : List (Str × Bi) := [("len", .len), ("sorted", .sorted), ("list", .list), ("tuple", .tuple), ("all", .all), ("any", .any), ("min", .min), ("max", .max), ("int", .int), ("abs", .abs), ("dict", .dict)]
def tys : List Str := ["list", "tuple", "int", "bool", "str", "dict"]
def ordGo (npos : Nat) (kws : List Str) : Nat → List Str → Option (List Nat)
  | _, [] => some []
  | i, p :: ps => match ordGo npos kws (i + 1) ps with
    | none => none
    | some r => if i < npos then some (i :: r) else match kws.findIdx? (fun y => y == p) with
      | some j => some ((npos + j) :: r)
      | none => none
def ordOf (ps : List Str) (sh : List (Nat × List Str)) (npos : Nat) (kws : List Str) : Option (List Nat) := if sh.contains (npos, kws) then ordGo npos kws 0 ps else none
def okN (x : Str) : Bool := !(x == ("__debug__" : Str)) && !(x == ("__classdict__" : Str)) && !(x == ("__name__" : Str)) && !(x == ("super" : Str))
mutual
def tgOf (N : List Str) (sc : Scope) (e : Expr) : Option Tg := match e with
  | .Name x _ => if locB sc x then (match ix N x with
      | some i => some (.n i)
      | none => none) else none
  | .Tuple es _ _ => match tgsOf N sc es with
    | some ts => some (.t ts)
    | none => none
  | _ => none
def tgsOf (N : List Str) (sc : Scope) (es : List Expr) : Option (List Tg) := match es with
  | [] => some []
  | e :: r => match tgOf N sc e, tgsOf N sc r with
    | some t, some ts => some (t :: ts)
    | _, _ => none
end
mutual
def tgNs (e : Expr) : List Str := match e with
  | .Name x _ => [x]
  | .Tuple es _ _ => tgNss es
  | _ => []
def tgNss (es : List Expr) : List Str := match es with
  | [] => []
  | e :: r => tgNs e ++ tgNss r
end
def relB (scope sc : Scope) : Scope := relS scope sc
/-- the own names of a comprehension, with their slots -/
def ownOf (N : List Str) : List Str → Option (List (Str × Nat))
  | [] => some []
  | x :: r => match ix N x, ownOf N r with
    | some i, some q => some ((x, i) :: q)
    | _, _ => none
def kwN (kws : List Keyword) : Option (List Str) := mapO (fun k => k.arg) kws
def isTup : Expr → Bool
  | .Tuple .. => true
  | _ => false
/-- what a for walks -/
def itOf (g : Gi) (sc : Scope) (f : Expr → Option Ir) (tg : Expr) (e : Expr) : Option (Im × List Ir) := match e with
  | .Call (.Name x _) as [] _ =>
    if glB sc x && (g.fns.lookup x).isNone && (g.cls.lookup x).isNone then
      if x == "range" then (match as with
        | [a] => (f a).map fun i => (.range1, [i])
        | [a, b] => match f a, f b with
          | some i, some j => some (.range2, [i, j])
          | _, _ => none
        | _ => none)
      else if x == "enumerate" then (match as with
        | [a] => if isTup tg then (f a).map fun i => (.enum, [i]) else none
        | _ => none)
      else if x == "zip" then (match as with
        | [a, b] => if isTup tg then (match f a, f b with
          | some i, some j => some (.zip, [i, j])
          | _, _ => none) else none
        | _ => none)
      else (f e).map fun i => (.of, [i])
    else (f e).map fun i => (.of, [i])
  | e => (f e).map fun i => (.of, [i])
def isCst : Expr → Bool
  | .Constant .none _ _ => true
  | _ => false
def starOf (f : Expr → Option Ir) : Expr → Option (Bool × Ir)
  | .Starred e _ => (f e).map fun i => (true, i)
  | e => (f e).map fun i => (false, i)
def foldB (mk : Ir → Ir → Ir) : List Ir → Option Ir
  | [] => none
  | [a] => some a
  | a :: r => (foldB mk r).map (mk a)
def tyN (sc : Scope) : Expr → Option Str
  | .Name t _ => if glB sc t && tys.contains t then some t else none
  | _ => none
def compB (g : Gi) (N : List Str) (fE : Scope → Expr → Option Ir) (sc : Scope) (e : Expr) : Option Ir := match e with
    | .Constant c _ _ => (match c with
      | .none => some (.k .non)
      | .bool b => some (.k (.bl b))
      | .int i => some (.k (.int i))
      | .str s => some (.k (.str s))
      | _ => none)
    | .Name x _ => if okN x then (match ix N x with
      | some i => if visB sc x then some (.v i) else none
      | none => if glB sc x then (g.cst.lookup x).map .k else none) else none
    | .List es _ => (mapO (starOf (fE sc)) es).map .lst
    | .Tuple es _ _ => (mapO (starOf (fE sc)) es).map .tup
    | .Dict ks vs _ => match mapO (fun k => k.bind (fE sc)) ks, mapO (fE sc) vs with
      | some a, some b => if a.length = b.length && decide (a.length ≤ 15) then some (.dct (a.zip b)) else none
      | _, _ => none
    | .BinOp a op b _ => match fE sc a, fE sc b with
      | some i, some j => some (.bin op i j)
      | _, _ => none
    | .UnaryOp .Not a _ => (fE sc a).map .not
    | .UnaryOp .USub a _ => (fE sc a).map .neg
    | .BoolOp .And es _ => if decide (2 ≤ es.length) then (mapO (fE sc) es).bind (foldB .and) else none
    | .BoolOp .Or es _ => if decide (2 ≤ es.length) then (mapO (fE sc) es).bind (foldB .or) else none
    | .Compare a [op] [b] _ => match fE sc a with
      | none => none
      | some i => match op with
        | .Is => if isCst b then some (.isN i) else none
        | .IsNot => if isCst b then some (.notN i) else none
        | op => (fE sc b).map (.cmp op i)
    | .Compare a [op, op'] [b, c] _ => match fE sc a, fE sc b, fE sc c with
      | some i, some j, some k => some (.chain op op' i j k)
      | _, _, _ => none
    | .IfExp c a b _ => match fE sc c, fE sc a, fE sc b with
      | some i, some j, some k => some (.ite i j k)
      | _, _, _ => none
    | .Subscript a (.Slice lo hi none _) _ => match fE sc a with
      | none => none
      | some i => match lo with
        | none => (match hi with
          | none => some (.cut i none none)
          | some h => (fE sc h).map fun k => .cut i none (some k))
        | some l => match fE sc l with
          | none => none
          | some j => (match hi with
            | none => some (.cut i (some j) none)
            | some h => (fE sc h).map fun k => .cut i (some j) (some k))
    | .Subscript a i _ => match fE sc a, fE sc i with
      | some x, some y => some (.sub x y)
      | _, _ => none
    | .Attribute a f _ => match fE sc a, g.fld.lookup f with
      | some i, some cs => some (.fld i f cs)
      | _, _ => none
    | .Call (.Name x _) as kws _ => if glB sc x && okN x then (match g.fns.lookup x with
      | some (ps, sh) => match mapO (fE sc) as, kwN kws, mapO (fun k => fE sc k.value) kws with
        | some a, some ks, some b => (ordOf ps sh a.length ks).map fun o => .call x (a ++ b) o
        | _, _, _ => none
      | none => match g.cls.lookup x with
        | some (ps, sh) => (match mapO (fE sc) as, kws with
          | some a, [] => if a.length = ps.length then some (.new x a) else none
          | _, _ => none)
        | none => match kws with
          | [] => if x == "isinstance" then (match as with
              | [a, .Name t _] => if glB sc t && okN t && (tys.contains t || (g.cls.lookup t).isSome) then (fE sc a).map fun i => .isi i [t] (g.cls.map (·.1)) else none
              | [a, .Tuple ts _ _] => (match mapO (tyN sc) ts with
                | some us => if decide (1 ≤ us.length) && decide (us.length ≤ 100) then (fE sc a).map fun i => .isi i us (g.cls.map (·.1)) else none
                | none => none)
              | _ => none)
            else match bis.lookup x with
              | some b => (mapO (fE sc) as).map (.bi b)
              | none => none
          | _ => none) else none
    | .Call (.Attribute o m ap) as [] cp => if (ap.endLine == cp.line) = false then none else if m == "join" then (match as with
        | [a] => match fE sc o, fE sc a with
          | some i, some j => some (.join i j)
          | _, _ => none
        | _ => none)
      else match fE sc o, mapO (fE sc) as with
        | some i, some a => some (.meth m i a)
        | _, _ => none
    | .ListComp elt [⟨tg, it, ifs, 0⟩] scope _ => match ownOf N (tgNs tg) with
      | none => none
      | some own => if blkC N sc scope own && decide (ifs.length ≤ 1) then (match tgOf N scope tg, itOf g sc (fE sc) tg it, mapO (fE (relS scope sc)) ifs, fE (relS scope sc) elt with
        | some t, some (im, its), some c, some b => some (.lc (own.map (·.2)) t im its c b)
        | _, _, _, _ => none) else none
    | .DictComp ke ve [⟨tg, it, ifs, 0⟩] scope _ => match ownOf N (tgNs tg) with
      | none => none
      | some own => if blkC N sc scope own && decide (ifs.length ≤ 1) then (match tgOf N scope tg, itOf g sc (fE sc) tg it, mapO (fE (relS scope sc)) ifs, fE (relS scope sc) ke, fE (relS scope sc) ve with
        | some t, some (im, its), some c, some a, some b => some (.dc (own.map (·.2)) t im its c a b)
        | _, _, _, _, _ => none) else none
    | _ => none
/-- the two forms that look at the stream's cells -/
def specE (N : List Str) (sc : Scope) (e : Expr) : Option Ir := match e with
  | .Compare (.Subscript (.Name x _) (.Constant (.int k) _ _) _) [.NotEq] [.List [] _] _ => if x == "stream" && decide (k = 0) && okN x && visB sc x then (ix N x).map .ncells else none
  | .Call (.Attribute (.Subscript (.Name x _) (.Constant (.int k) _ _) _) m ap) [.Constant (.int j) _ _] [] cp => if x == "stream" && decide (k = 0) && decide (j = 0) && m == "pop" && (ap.endLine == cp.line) && okN x && visB sc x then (ix N x).map .spop else none
  | _ => none
def compE (g : Gi) (N : List Str) : Nat → Scope → Expr → Option Ir
  | 0, _, _ => none
  | n + 1, sc, e => match specE N sc e with
    | some i => some i
    | none => compB g N (compE g N n) sc e
def isCompB (e : Expr) : Bool := match e with
  | .ListComp .. => true
  | .SetComp .. => true
  | .DictComp .. => true
  | _ => false
def nameIx (N : List Str) (sc : Scope) : Expr → Option Nat
  | .Name x _ => if locB sc x then ix N x else none
  | _ => none
def retOk (N : List Str) (sc : Scope) (e : Expr) (i : Ir) : Bool := match i with
  | .v j => (match e with
    | .Name x _ => decide (ix N x = some j) && visB sc x && okN x
    | _ => false)
  | _ => true
/-- how a tuple of names takes a tuple display -/
def swNm (sc : Scope) (ts : List Expr) : List Str := ts.filterMap fun
  | .Name id pos => if sc.names.lookup id == some .local && pos.line == (ts.head?.map (·.pos.line)).getD 0 then some id else none
  | _ => none
def starB (e : Expr) : Bool := match e with
  | .Starred .. => true
  | _ => false
def parSw (sc : Scope) (ts vs : List Expr) : Option (Option (List Str)) :=
  if (!(ts.length == 2 || ts.length == 3) || vs.length != ts.length) = true then some none
  else if vs.any starB = true then some none
  else if ((swNm sc ts).length != ts.length || (swNm sc ts).eraseDups.length != (swNm sc ts).length) = true then some none
  else if vs.all (foldedForSure 8) = true then some none
  else if vs.all (constantsAlone 8) = true then none else some (some (swNm sc ts))
def parOk (sc : Scope) (ts vs : List Expr) : Bool := match parSw sc ts vs with
  | some none => true
  | some (some _) => ts.length == 2
  | none => false
def compS (g : Gi) (N : List Str) (sc : Scope) : Nat → Stmt → Option Is
  | 0, _ => none
  | n + 1, s => match s with
    | .Assign [tg] e _ => match tg with
      | .Name _ _ => (match nameIx N sc tg with
        | none => none
        | some y => match e with
          | .Call (.Attribute (.Name x _) m ap) as [] cp => if m == "pop" then (if (ap.endLine == cp.line) = false then none else match ix N x, as with
              | some i, [] => if visB sc x && okN x then some (.pop y i) else none
              | some i, [a] => if visB sc x && okN x then (compE g N 30 sc a).map (.popAt y i) else none
              | _, _ => none)
            else (compE g N 30 sc e).map (.set (.n y))
          | e => (compE g N 30 sc e).map (.set (.n y)))
      | .Tuple ts _ _ => if isTup e then (match e with
        | .Tuple es _ _ => match mapO (nameIx N sc) ts, mapO (compE g N 30 sc) es with
          | some xs, some is => if xs.length = is.length && decide xs.Nodup && parOk sc ts es && decide (xs.length ≤ 100) then some (.par xs is) else none
          | _, _ => none
        | _ => none) else (match tgOf N sc tg, compE g N 30 sc e with
          | some t, some i => some (.set t i)
          | _, _ => none)
      | .Subscript (.Name x _) i _ => match ix N x, compE g N 30 sc i, compE g N 30 sc e with
        | some x', some k, some v => if visB sc x && okN x then some (.put x' k v) else none
        | _, _, _ => none
      | _ => none
    | .Expr e _ => (match e with
      | .Call (.Attribute (.Name x _) m ap) [a] [] cp => match ix N x with
        | none => none
        | some i => if visB sc x && okN x && (ap.endLine == cp.line) then
            if m == "append" then (match a with
              | .Call (.Attribute (.Name y _) m2 ap2) [b] [] cp2 => if m2 == "pop" && (ap2.endLine == cp2.line) then (match ix N y with
                  | some j => if visB sc y && okN y then (compE g N 30 sc b).map (.appPop i j) else none
                  | none => none) else (compE g N 30 sc a).map (.app i)
              | a => (compE g N 30 sc a).map (.app i))
            else if m == "extend" then (compE g N 30 sc a).map (.ext i)
            else if m == "update" then (compE g N 30 sc a).map (.upd i)
            else none
          else none
      | e => if isCompB e then none else (compE g N 30 sc e).map .ex)
    | .If c a b _ => match compE g N 30 sc c, mapO (compS g N sc n) a, mapO (compS g N sc n) b with
      | some i, some j, some k => some (.iff i j k)
      | _, _, _ => none
    | .For tg it body [] _ => match tgOf N sc tg, itOf g sc (compE g N 30 sc) tg it, mapO (compS g N sc n) body with
      | some t, some (im, its), some b => some (.for t im its b)
      | _, _, _ => none
    | .While c body [] _ => match compE g N 30 sc c, mapO (compS g N sc n) body with
      | some i, some b => some (.whl i b)
      | _, _ => none
    | .Return (some e) _ => (compE g N 30 sc e).bind fun i => if retOk N sc e i then some (.ret i) else none
    | .Return none _ => some .retN
    | .Break _ => some .brk
    | .Continue _ => some .cont
    | .Pass _ => some .pass
    | .Raise .. => some .dead
    | _ => none

/-! ### a def's names: parameters, locals, those of its comprehensions -/
def addN (N : List Str) (xs : List Str) : List Str := xs.foldl (fun a x => if a.contains x then a else a ++ [x]) N
def locs (sc : Scope) : List Str := (sc.names.filter fun y => match y.2 with
  | .local => true
  | .cell => true
  | _ => false).map (·.1)
def fnScopeB (N ps : List Str) (sc : Scope) : Bool :=
  (match sc.kind with | .function => true | _ => false) && !sc.isCoroutine && !sc.isGenerator && decide N.Nodup && decide (N.take ps.length = ps) &&
    (ps.all fun x => locB sc x) && sc.names.all fun y => match y.2 with | .free => false | _ => true
theorem fnScope_of {N ps : List Str} {sc : Scope} (h : fnScopeB N ps sc = true) : FnScope N ps sc := by
  unfold fnScopeB at h
  simp only [Bool.and_eq_true, List.all_eq_true, decide_eq_true_eq, Bool.not_eq_true'] at h
  obtain ⟨⟨⟨⟨⟨⟨h1, h2⟩, h3⟩, h4⟩, h5⟩, h6⟩, h7⟩ := h
  refine ⟨?_, h2, h3, h4, h5, fun x hx => ?_, fun y hy e => ?_⟩
  · split at h1
    · assumption
    · cases h1
  · have := h6 x hx
    unfold locB at this
    split at this
    · left; assumption
    · right; assumption
    · cases this
  · have := h7 y hy
    rw [e] at this
    cases this
end Ev
/-! EvS0 -/
namespace Ev
open PySem PySem.Spec PyProof.Rows L2

/-! ### the state: what is frozen, whose the own things are, the stream -/
inductive Ow where
  | slot (i : Nat) | strm | tmp (k : Nat)
  deriving DecidableEq
abbrev OwF := Addr → Option Ow
/-- without the stream's objects -/
def Hn (ow : OwF) (H : Hp) : Hp := fun a => if ow a = some .strm then none else H a
/-- data whose parts are frozen; the thing itself may be an own one -/
def RB (C : Ctx) (θ : Toks) (F H : Hp) (d : D) (v : V) : Prop := match d with
  | .lst ds => ∃ a vs, v = .ref a ∧ H a = some (.lst vs) ∧ Rs C θ F ds vs
  | .dct kvs => ∃ a ks, v = .ref a ∧ Rd H a (.dK ks) ∧ RK C θ F kvs ks
  | .obj c fs => ∃ a dx vs, v = .ref a ∧ H a = some (.ins (C.cls c) dx vs) ∧ RF C θ F fs vs
  | d => R C θ F d v
def OwnT (C : Ctx) (θ : Toks) (F H : Hp) (ow : OwF) (k : Ow) (t : T) (v : V) : Prop := match t with
  | .fz d => R C θ F d v
  | .ol ds => ∃ a vs, v = .ref a ∧ ow a = some k ∧ H a = some (.lst vs) ∧ Rs C θ F ds vs
  | .od kvs => ∃ a ks, v = .ref a ∧ ow a = some k ∧ H a = some (.dK ks) ∧ RK C θ F kvs ks
  | .oo c fs => ∃ a dx vs, v = .ref a ∧ ow a = some k ∧ H a = some (.ins (C.cls c) dx vs) ∧ RF C θ F fs vs
/-- a fresh thing, its holder not yet told -/
def ResT (C : Ctx) (θ : Toks) (F H : Hp) (ow : OwF) (H0 : Hp) (t : T) (v : V) : Prop := match t with
  | .fz d => R C θ F d v
  | .ol ds => ∃ a vs, v = .ref a ∧ H0 a = none ∧ F a = none ∧ ow a = none ∧ H a = some (.lst vs) ∧ Rs C θ F ds vs
  | .od kvs => ∃ a ks, v = .ref a ∧ H0 a = none ∧ F a = none ∧ ow a = none ∧ H a = some (.dK ks) ∧ RK C θ F kvs ks
  | .oo c fs => ∃ a dx vs, v = .ref a ∧ H0 a = none ∧ F a = none ∧ ow a = none ∧ H a = some (.ins (C.cls c) dx vs) ∧ RF C θ F fs vs
def StrmOk (θ : Toks) (H : Hp) (ow : OwF) : Sst → Prop
  | none => θ 0 = none
  | some st => ∃ s l, θ 0 = some s ∧ s ≠ l ∧ H s = some (.lst [.ref l, .int st.a, .int st.b, .int st.c]) ∧ H l = some (.lst (st.cells.map V.int)) ∧ ow s = some .strm ∧ ow l = some .strm
/-- no tuple -/
def NT (o : HO) : Prop := ∀ xs, o ≠ .tup xs
structure Hok (θ : Toks) (F H : Hp) (ow : OwF) (st : Sst) : Prop where
  le : Le F H
  sep : ∀ a o, F a = some o → ow a = none
  liv : ∀ a k, ow a = some k → ∃ o, H a = some o ∧ NT o
  str : StrmOk θ H ow st
def EnvOk (C : Ctx) (θ : Toks) (F H : Hp) (ow : OwF) (σ : L2.St) (env : Env) : Prop := env.length = σ.length ∧ ∀ i t, env[i]? = some (some t) → ∃ v, σ[i]? = some (some v) ∧ OwnT C θ F H ow (.slot i) t v
structure Stp (θ : Toks) (F H : Hp) (ow : OwF) (θ' : Toks) (F' H' : Hp) (ow' : OwF) : Prop where
  th : Tle θ θ'
  fx : ∀ a o, F a = some o → F' a = some o
  ex : ∀ a o, H a = some o → ow a ≠ some .strm → H' a = some o
  oo : ∀ a o, H a = some o → ow' a = ow a
  fn : ∀ a o, H a = some o → NT o → ow a ≠ some .strm → F a = none → F' a = none
section
variable {C : Ctx} {θ θ' θ'' : Toks} {F F' F'' H H' H'' : Hp} {ow ow' ow'' : OwF} {st st' : Sst} {σ : L2.St} {env : Env}
theorem Stp.refl : Stp θ F H ow θ F H ow := ⟨Tle.refl _, fun _ _ h => h, fun _ _ h _ => h, fun _ _ _ => rfl, fun _ _ _ _ _ h => h⟩
theorem Stp.live (s : Stp θ F H ow θ' F' H' ow') (h : Hok θ' F' H' ow' st') {a : Addr} {o : HO} (e : H a = some o) : ∃ o', H' a = some o' := by
  by_cases z : ow a = some .strm
  · obtain ⟨o', e', _⟩ := h.liv a .strm ((s.oo a o e).trans z)
    exact ⟨o', e'⟩
  · exact ⟨o, s.ex a o e z⟩
theorem Stp.trans (a : Stp θ F H ow θ' F' H' ow') (h : Hok θ' F' H' ow' st') (b : Stp θ' F' H' ow' θ'' F'' H'' ow'') : Stp θ F H ow θ'' F'' H'' ow'' := by
  refine ⟨a.th.trans b.th, fun x o e => b.fx x o (a.fx x o e), fun x o e z => ?_, fun x o e => ?_, fun x o e n z0 z => ?_⟩
  · exact b.ex x o (a.ex x o e z) (by rw [a.oo x o e]; exact z)
  · obtain ⟨o', e'⟩ := a.live h e
    rw [b.oo x o' e', a.oo x o e]
  · exact b.fn x o (a.ex x o e z0) n (by rw [a.oo x o e]; exact z0) (a.fn x o e n z0 z)
theorem Le.of_ext (h : ∀ a o, H a = some o → H' a = some o) : Le H H' := fun a o e => .inl (h a o e)
theorem Stp.leF (s : Stp θ F H ow θ' F' H' ow') : Le F F' := Le.of_ext s.fx
theorem Hn_le : Le (Hn ow H) H := fun a o e => by
  unfold Hn at e
  split at e
  · cases e
  · exact .inl e
theorem Hok.leN (h : Hok θ F H ow st) : Le F (Hn ow H) := fun a o e => by
  have z : (if ow a = some .strm then none else H a) = H a := by rw [h.sep a o e]; rfl
  unfold Hn
  rw [z]
  exact h.le a o e
theorem Stp.leN (s : Stp θ F H ow θ' F' H' ow') : Le (Hn ow H) (Hn ow' H') := fun a o e => by
  unfold Hn at e ⊢
  by_cases z : ow a = some .strm
  · rw [if_pos z] at e; cases e
  · rw [if_neg z] at e
    rw [s.oo a o e, if_neg z]
    exact .inl (s.ex a o e z)
/-- frozen data, looked at -/
theorem RB.of {G : Hp} (l : Le F G) : ∀ {d : D} {v : V}, R C θ F d v → RB C θ F G d v
  | .non, _, h => h
  | .bl _, _, h => h
  | .int _, _, h => h
  | .str _, _, h => h
  | .lst ds, v, h => by
    obtain ⟨a, vs, e, q, r⟩ := h
    exact ⟨a, vs, e, l.lst q, r⟩
  | .tup ds, v, h => h
  | .dct kvs, v, h => by
    obtain ⟨a, ks, e, q, r⟩ := h
    exact ⟨a, ks, e, l.rd q, r⟩
  | .obj c fs, v, h => by
    obtain ⟨a, dx, vs, e, q, r⟩ := h
    exact ⟨a, dx, vs, e, l.ins q, r⟩
  | .tok n, v, h => h
theorem RB.mono {G G' : Hp} (l : Le G G') (lf : Le F F') (t : Tle θ θ') : ∀ {d : D} {v : V}, RB C θ F G d v → RB C θ' F' G' d v
  | .non, _, h => h
  | .bl _, _, h => h
  | .int _, _, h => h
  | .str _, _, h => h
  | .lst ds, v, h => by
    obtain ⟨a, vs, e, q, r⟩ := h
    exact ⟨a, vs, e, l.lst q, Rs.mono lf t _ _ r⟩
  | .tup ds, v, h => R.mono lf t (.tup ds) v h
  | .dct kvs, v, h => by
    obtain ⟨a, ks, e, q, r⟩ := h
    exact ⟨a, ks, e, l.rd q, RK.mono lf t _ _ r⟩
  | .obj c fs, v, h => by
    obtain ⟨a, dx, vs, e, q, r⟩ := h
    exact ⟨a, dx, vs, e, l.ins q, RF.mono lf t _ _ r⟩
  | .tok n, v, h => R.mono (C := C) lf t (.tok n) v h
/-- .. as data of the whole heap -/
theorem RB.r {G : Hp} (l : Le F G) : ∀ {d : D} {v : V}, RB C θ F G d v → R C θ G d v
  | .non, _, h => h
  | .bl _, _, h => h
  | .int _, _, h => h
  | .str _, _, h => h
  | .lst ds, v, h => by
    obtain ⟨a, vs, e, q, r⟩ := h
    exact ⟨a, vs, e, q, Rs.mono l (Tle.refl _) _ _ r⟩
  | .tup ds, v, h => R.mono l (Tle.refl _) (.tup ds) v h
  | .dct kvs, v, h => by
    obtain ⟨a, ks, e, q, r⟩ := h
    exact ⟨a, ks, e, q, RK.mono l (Tle.refl _) _ _ r⟩
  | .obj c fs, v, h => by
    obtain ⟨a, dx, vs, e, q, r⟩ := h
    exact ⟨a, dx, vs, e, q, RF.mono l (Tle.refl _) _ _ r⟩
  | .tok n, v, h => R.mono (C := C) l (Tle.refl _) (.tok n) v h
theorem Hn_at {a : Addr} {o : HO} (z : ow a ≠ some .strm) (e : H a = some o) : Hn ow H a = some o := by
  unfold Hn
  rw [if_neg z]
  exact e
theorem OwnT.rb (h : Hok θ F H ow st) {k : Ow} (hk : k ≠ .strm) : ∀ {t : T} {v : V}, OwnT C θ F H ow k t v → RB C θ F (Hn ow H) t.er v
  | .fz d, v, q => RB.of h.leN q
  | .ol ds, v, q => by
    obtain ⟨a, vs, e, o, q, r⟩ := q
    exact ⟨a, vs, e, Hn_at (by rw [o]; exact fun z => hk (Option.some.inj z)) q, r⟩
  | .od kvs, v, q => by
    obtain ⟨a, ks, e, o, q, r⟩ := q
    exact ⟨a, ks, e, .inl (Hn_at (by rw [o]; exact fun z => hk (Option.some.inj z)) q), r⟩
  | .oo c fs, v, q => by
    obtain ⟨a, dx, vs, e, o, q, r⟩ := q
    exact ⟨a, dx, vs, e, Hn_at (by rw [o]; exact fun z => hk (Option.some.inj z)) q, r⟩
theorem OwnT.stp (s : Stp θ F H ow θ' F' H' ow') {k : Ow} (hk : k ≠ .strm) : ∀ {t : T} {v : V}, OwnT C θ F H ow k t v → OwnT C θ' F' H' ow' k t v
  | .fz d, v, q => R.mono s.leF s.th d v q
  | .ol ds, v, q => by
    obtain ⟨a, vs, e, o, q, r⟩ := q
    exact ⟨a, vs, e, (s.oo a _ q).trans o, s.ex a _ q (by rw [o]; exact fun z => hk (Option.some.inj z)), Rs.mono s.leF s.th _ _ r⟩
  | .od kvs, v, q => by
    obtain ⟨a, ks, e, o, q, r⟩ := q
    exact ⟨a, ks, e, (s.oo a _ q).trans o, s.ex a _ q (by rw [o]; exact fun z => hk (Option.some.inj z)), RK.mono s.leF s.th _ _ r⟩
  | .oo c fs, v, q => by
    obtain ⟨a, dx, vs, e, o, q, r⟩ := q
    exact ⟨a, dx, vs, e, (s.oo a _ q).trans o, s.ex a _ q (by rw [o]; exact fun z => hk (Option.some.inj z)), RF.mono s.leF s.th _ _ r⟩
theorem EnvOk.stp (s : Stp θ F H ow θ' F' H' ow') (h : EnvOk C θ F H ow σ env) : EnvOk C θ' F' H' ow' σ env := ⟨h.1, fun i t e => by
  obtain ⟨v, e1, q⟩ := h.2 i t e
  exact ⟨v, e1, OwnT.stp s (k := .slot i) (fun z => Ow.noConfusion z) q⟩⟩
theorem EnvOk.use (h : EnvOk C θ F H ow σ env) {i : Nat} {d : D} (e : useV env i = some d) : ∃ v, σ[i]? = some (some v) ∧ R C θ F d v := by
  unfold useV at e
  split at e
  · rename_i d' e'
    cases e
    exact h.2 i _ e'
  · cases e
theorem EnvOk.look (h : EnvOk C θ F H ow σ env) (ok : Hok θ F H ow st) {i : Nat} {d : D} (e : lookV env i = some d) : ∃ v, σ[i]? = some (some v) ∧ RB C θ F (Hn ow H) d v := by
  unfold lookV at e
  split at e
  · rename_i t e'
    cases e
    obtain ⟨v, e1, q⟩ := h.2 i _ e'
    exact ⟨v, e1, OwnT.rb ok (k := .slot i) (fun z => Ow.noConfusion z) q⟩
  · cases e
/-- a new object, frozen at once -/
theorem Hok.frozen (h : Hok θ F H ow st) {p : Addr} {o : HO} (hp : H p = none) : Hok θ (upd F p o) (upd H p o) ow st ∧ Stp θ F H ow θ (upd F p o) (upd H p o) ow := by
  have nF : ∀ a u, F a = some u → a ≠ p := fun a u e z => by
    subst z
    rcases h.le _ _ e with q | ⟨_, ob, q⟩
    · rw [hp] at q; cases q
    · rw [hp] at q; cases q
  have nH : ∀ a u, H a = some u → a ≠ p := fun a u e z => by subst z; rw [hp] at e; cases e
  have np : ow p = none := by
    cases e : ow p with
    | none => rfl
    | some k =>
      obtain ⟨u, q, _⟩ := h.liv p k e
      rw [hp] at q
      cases q
  refine ⟨⟨fun a u e => ?_, fun a u e => ?_, fun a k e => ?_, ?_⟩, ⟨Tle.refl _, fun a u e => by rw [upd_ne (nF a u e)]; exact e, fun a u e _ => by rw [upd_ne (nH a u e)]; exact e, fun _ _ _ => rfl, fun a u e _ _ z => by rw [upd_ne (nH a u e)]; exact z⟩⟩
  · by_cases z : a = p
    · subst z
      rw [upd_same] at e ⊢
      exact .inl e
    · rw [upd_ne z] at e ⊢
      exact h.le a u e
  · by_cases z : a = p
    · rw [z]; exact np
    · rw [upd_ne z] at e
      exact h.sep a u e
  · obtain ⟨u, q, nt⟩ := h.liv a k e
    exact ⟨u, by rw [upd_ne (nH a u q)]; exact q, nt⟩
  · have hs := h.str
    cases st with
    | none => exact hs
    | some st =>
      obtain ⟨s, l, e1, e2, e3, e4, e5, e6⟩ := hs
      exact ⟨s, l, e1, e2, by rw [upd_ne (nH s _ e3)]; exact e3, by rw [upd_ne (nH l _ e4)]; exact e4, e5, e6⟩
/-- a new object, not frozen -/
theorem Hok.laid (h : Hok θ F H ow st) {p : Addr} {o : HO} (hp : H p = none) : Hok θ F (upd H p o) ow st ∧ Stp θ F H ow θ F (upd H p o) ow := by
  have nF : ∀ a u, F a = some u → a ≠ p := fun a u e z => by
    subst z
    rcases h.le _ _ e with q | ⟨_, ob, q⟩
    · rw [hp] at q; cases q
    · rw [hp] at q; cases q
  have nH : ∀ a u, H a = some u → a ≠ p := fun a u e z => by subst z; rw [hp] at e; cases e
  refine ⟨⟨fun a u e => ?_, h.sep, fun a k e => ?_, ?_⟩, ⟨Tle.refl _, fun a u e => e, fun a u e _ => by rw [upd_ne (nH a u e)]; exact e, fun _ _ _ => rfl, fun _ _ _ _ _ z => z⟩⟩
  · rw [upd_ne (nF a u e)]
    exact h.le a u e
  · obtain ⟨u, q, nt⟩ := h.liv a k e
    exact ⟨u, by rw [upd_ne (nH a u q)]; exact q, nt⟩
  · have hs := h.str
    cases st with
    | none => exact hs
    | some st =>
      obtain ⟨s, l, e1, e2, e3, e4, e5, e6⟩ := hs
      exact ⟨s, l, e1, e2, by rw [upd_ne (nH s _ e3)]; exact e3, by rw [upd_ne (nH l _ e4)]; exact e4, e5, e6⟩
theorem Hok.noF (h : Hok θ F H ow st) {p : Addr} (hp : H p = none) : F p = none := by
  cases e : F p with
  | none => rfl
  | some u =>
    rcases h.le _ _ e with q | ⟨_, ob, q⟩
    · rw [hp] at q; cases q
    · rw [hp] at q; cases q
theorem Hok.noO (h : Hok θ F H ow st) {p : Addr} (hp : H p = none) : ow p = none := by
  cases e : ow p with
  | none => rfl
  | some k =>
    obtain ⟨u, q, _⟩ := h.liv p k e
    rw [hp] at q
    cases q
end

/-! ### what the text does, said by the semantics themselves -/
section
variable {X : Cx}
def SemE (X : Cx) (e : Expr) : TE := fun σ H Q => ∀ (pins : List (Addr × Obj)) (s : Shared), Inv X pins σ H s → wpAny (model X.prog X.w) X.A (eval e X.env) (EP X pins σ Q) X.xe s
def SemC (X : Cx) (e : Expr) : TT := fun σ H Q => ∀ (pins : List (Addr × Obj)) (s : Shared), Inv X pins σ H s → wpAny (model X.prog X.w) X.A (isTrue e X.env (eval e X.env)) (TP X pins σ Q) X.xe s
def SemS (X : Cx) (st : Stmt) : TS := fun D σ H => ∀ (pins : List (Addr × Obj)) (s : Shared), Inv X pins σ H s → wpAny (model X.prog X.w) X.A (exec st X.env) (SP X pins D) X.xe s
def SemB (X : Cx) (st : List Stmt) : TS := fun D σ H => ∀ (pins : List (Addr × Obj)) (s : Shared), Inv X pins σ H s → wpAny (model X.prog X.w) X.A (execs st X.env) (SP X pins D) X.xe s
def SemA (X : Cx) (es : List Expr) : TA := fun σ H Q => ∀ (pos : Pos) (pins : List (Addr × Obj)) (s : Shared), Inv X pins σ H s → wpAny (model X.prog X.w) X.A (spliced (backTo pos (starEach es X.env))) (AP X pins σ Q) X.xe s
theorem pe_sem {e : Expr} : PE X e (SemE X e) := ⟨fun pins s _ _ _ I h => h pins s I⟩
theorem pt_sem {e : Expr} : PT X e (SemC X e) := ⟨fun pins s _ _ _ I h => h pins s I⟩
theorem ps_sem {st : Stmt} : PS X st (SemS X st) := ⟨fun pins s _ _ _ I h => h pins s I⟩
theorem pss_sem {st : List Stmt} : PSs X st (SemB X st) := ⟨fun pins s _ _ _ I h => h pins s I⟩
theorem pa_sem {es : List Expr} : PA X es (SemA X es) := ⟨fun pos pins s _ _ _ I h => h pos pins s I⟩
theorem se {e : Expr} {t : TE} (h : PE X e t) {σ : L2.St} {H : Hp} {Q : VK} (q : t σ H Q) : SemE X e σ H Q := fun pins s I => h.run pins s σ H Q I q
theorem sc' {e : Expr} {t : TT} (h : PT X e t) {σ : L2.St} {H : Hp} {Q : Bool → Hp → Prop} (q : t σ H Q) : SemC X e σ H Q := fun pins s I => h.run pins s σ H Q I q
theorem ss {st : Stmt} {t : TS} (h : PS X st t) {D : Ends} {σ : L2.St} {H : Hp} (q : t D σ H) : SemS X st D σ H := fun pins s I => h.run pins s σ H D I q
theorem sb {st : List Stmt} {t : TS} (h : PSs X st t) {D : Ends} {σ : L2.St} {H : Hp} (q : t D σ H) : SemB X st D σ H := fun pins s I => h.run pins s σ H D I q
theorem sa {es : List Expr} {t : TA} (h : PA X es t) {σ : L2.St} {H : Hp} {Q : List V → Hp → Prop} (q : t σ H Q) : SemA X es σ H Q := fun pos pins s I => h.run pos pins s σ H Q I q
theorem SemE.mono {e : Expr} {σ : L2.St} {H : Hp} {Q Q' : VK} (h : SemE X e σ H Q) (q : ∀ v H', Q v H' → Q' v H') : SemE X e σ H Q' := fun pins s I => thn (h pins s I) fun u s' ⟨v, H', I', r, z⟩ => ⟨v, H', I', r, q v H' z⟩
end
end Ev
/-! EvP -/
namespace Ev
open PySem PySem.Spec PyProof.Rows L2

/-- a value handed on: a list, a dict are new; anything else as it stands, a tuple perhaps new -/
def Del (C : Ctx) (θ : Toks) (F : Hp) (z : D) (H : Hp) (Q : VK) : Prop := match z with
  | .lst ds => ∀ p vs, H p = none → Rs C θ F ds vs → Q (.ref p) (upd H p (.lst vs))
  | .dct kvs => ∀ p ks, H p = none → RK C θ F kvs ks → Q (.ref p) (upd H p (.dK ks))
  | .tup ds => (∀ p vs, H p = none → Rs C θ F ds vs → Q (.ref p) (upd H p (.tup vs))) ∧ ∀ v, R C θ F (.tup ds) v → Q v H
  | z => ∀ v, R C θ F z v → Q v H
/-- .. and frozen -/
theorem del_fz {C : Ctx} {θ : Toks} {F H : Hp} {ow : OwF} {st : Sst} {z : D} {Q : VK} (ok : Hok θ F H ow st)
    (k : ∀ v H' F', Stp θ F H ow θ F' H' ow → Hok θ F' H' ow st → R C θ F' z v → Q v H') : Del C θ F z H Q := by
  have here : ∀ v, R C θ F z v → Q v H := fun v r => k v H F Stp.refl ok r
  cases z with
  | lst ds =>
    intro p vs hp r
    obtain ⟨o1, s1⟩ := ok.frozen (o := .lst vs) hp
    exact k _ _ _ s1 o1 ⟨p, vs, rfl, upd_same, Rs.mono s1.leF s1.th _ _ r⟩
  | tup ds =>
    refine ⟨fun p vs hp r => ?_, here⟩
    obtain ⟨o1, s1⟩ := ok.frozen (o := .tup vs) hp
    exact k _ _ _ s1 o1 ⟨p, vs, rfl, SqT.of upd_same, Rs.mono s1.leF s1.th _ _ r⟩
  | dct kvs =>
    intro p ks hp r
    obtain ⟨o1, s1⟩ := ok.frozen (o := .dK ks) hp
    exact k _ _ _ s1 o1 ⟨p, ks, rfl, .inl upd_same, RK.mono s1.leF s1.th _ _ r⟩
  | _ => exact here
theorem fits_ok {n : Nat} (h : fits n = true) : n ≤ sizeLine := by
  have := of_decide_eq_true h
  rw [sizeLine_eq]
  exact this
section
variable {C : Ctx} {X : Cx} (hK : X.K = C.K)
include hK
/-- two operands of data, looked at -/
def Two (C : Ctx) (x y : V) (H : Hp) (k : Toks → Hp → D → D → Prop) : Prop := ∃ θ F G a b, Le F G ∧ Le G H ∧ RB C θ F G a x ∧ RB C θ F G b y ∧ k θ F a b
omit hK in
theorem RB.int {θ : Toks} {F G : Hp} {i : Int} {v : V} (h : RB C θ F G (.int i) v) : v = .int i := h
theorem RB.reads {pins : List (Addr × Obj)} {σ : L2.St} {H F G : Hp} {s : Shared} {θ : Toks} (I : Inv X pins σ H s) {a : D} {x : V} {v : Value} {p : PyData} (l1 : Le F G) (l2 : Le G H) (r : RB C θ F G a x) (rv : RelV x v) (e : toP a = some p) : ∃ as, Reads s.heap v p as := by
  have r1 := R.mono l2 (Tle.refl θ) _ _ (RB.r l1 r)
  have r2 := R.dp _ _ _ r1 e
  rw [← hK] at r2
  exact Dp.reads I p x v r2 rv
def rBin (C : Ctx) (op : Operator) : R2 := fun x y H Q => Two C x y H fun θ F a b => ∃ z, binD op a b = some z ∧ Del C θ F z H Q
theorem op_bin (op : Operator) : OpR X (binaryOp op) (rBin C op) := by
  intro pins s σ H x y v u Q I rx ry h
  obtain ⟨θ, F, G, a, b, l1, l2, ra, rb, z, e, q⟩ := h
  have ll : ∀ {p : Addr} {vs : List V}, G p = some (.lst vs) → H p = some (.lst vs) := fun h => l2.lst h
  unfold binD at e
  cases op with
  | Add =>
    cases a with
    | int i =>
      cases b with
      | int j =>
        cases e
        exact op_add pins s σ H x y v u Q I rx ry ⟨i, j, ra, rb, q _ rfl⟩
      | _ => cases e
    | str i =>
      cases b with
      | str j =>
        have e : (if fits (i.length + j.length) = true then some (D.str (i ++ j)) else none) = some z := e
        split at e
        · rename_i hf
          cases e
          exact op_add_str pins s σ H x y v u Q I rx ry ⟨i, j, ra, rb, fits_ok hf, q _ rfl⟩
        · cases e
      | _ => cases e
    | lst xs =>
      cases b with
      | lst ys =>
        have e : (if fits (xs.length + ys.length) = true then some (D.lst (xs ++ ys)) else none) = some z := e
        split at e
        · rename_i hf
          cases e
          obtain ⟨p, vs, e1, h1, r1⟩ := ra
          obtain ⟨p2, ws, e2, h2, r2⟩ := rb
          refine op_cat pins s σ H x y v u Q I rx ry ⟨p, p2, vs, ws, e1, e2, ll h1, ll h2, ?_, fun b hb => q b _ hb (r1.app r2)⟩
          rw [r1.length, r2.length]
          exact fits_ok hf
        · cases e
      | _ => cases e
    | tup xs =>
      cases b with
      | tup ys =>
        have e : (if fits (xs.length + ys.length) = true then some (D.tup (xs ++ ys)) else none) = some z := e
        split at e
        · rename_i hf
          cases e
          have ra' := ra
          have rb' := rb
          obtain ⟨p, vs, e1, h1, r1⟩ := ra
          obtain ⟨p2, ws, e2, h2, r2⟩ := rb
          have h1 := (l1.sqt h1)
          have h2 := (l1.sqt h2)
          refine op_catA pins s σ H x y v u Q I rx ry ⟨p, p2, vs, ws, e1, e2, by rw [hK]; exact l2.sqt h1, by rw [hK]; exact l2.sqt h2, ?_, fun z => ?_, fun z1 z2 => ?_, fun _ _ b hb => q.1 b _ hb (r1.app r2)⟩
          · rw [r1.length, r2.length]
            exact fits_ok hf
          · have : xs = [] := by
              have := r1.length
              rw [z] at this
              exact List.eq_nil_of_length_eq_zero this.symm
            subst this
            rw [← e2]
            exact q.2 y rb'
          · have : ys = [] := by
              have := r2.length
              rw [z2] at this
              exact List.eq_nil_of_length_eq_zero this.symm
            subst this
            rw [← e1]
            rw [List.append_nil] at q
            exact q.2 x ra'
        · cases e
      | _ => cases e
    | _ => cases b <;> cases e
  | Sub =>
    cases a with
    | int i =>
      cases b with
      | int j =>
        cases e
        exact op_sub pins s σ H x y v u Q I rx ry ⟨i, j, ra, rb, q _ rfl⟩
      | _ => cases e
    | _ => cases b <;> cases e
  | Mult =>
    cases a with
    | int i =>
      cases b with
      | int j =>
        have e : (if cMul i j = true then some (D.int (i * j)) else none) = some z := e
        split at e
        · rename_i hf
          cases e
          refine op_mul pins s σ H x y v u Q I rx ry ⟨i, j, ra, rb, ?_, q _ rfl⟩
          unfold cMul at hf
          rcases Bool.or_eq_true_iff.mp hf with hf | hf
          · have := Bool.and_eq_true_iff.mp hf
            exact .inl ⟨of_decide_eq_true this.1, of_decide_eq_true this.2⟩
          · have := Bool.and_eq_true_iff.mp hf
            exact .inr ⟨of_decide_eq_true this.1, of_decide_eq_true this.2⟩
        · cases e
      | _ => cases e
    | _ => cases b <;> cases e
  | Mod =>
    cases a with
    | int i =>
      cases b with
      | int j =>
        have e : (if j = 0 then none else some (D.int (i.fmod j))) = some z := e
        split at e
        · cases e
        · rename_i hf
          cases e
          exact op_modN pins s σ H x y v u Q I rx ry ⟨i, j, ra, rb, hf, q _ rfl⟩
      | _ => cases e
    | _ => cases b <;> cases e
  | Pow =>
    cases a with
    | int i =>
      cases b with
      | int j =>
        have e : (if cPow i j = true then some (D.int (i ^ j.toNat)) else none) = some z := e
        split at e
        · rename_i hf
          cases e
          unfold cPow at hf
          simp only [Bool.and_eq_true, decide_eq_true_eq] at hf
          exact op_pow pins s σ H x y v u Q I rx ry ⟨i, j, ra, rb, ⟨hf.1.1, hf.1.2, hf.2⟩, q _ rfl⟩
        · cases e
      | _ => cases e
    | _ => cases b <;> cases e
  | FloorDiv =>
    cases a with
    | int i =>
      cases b with
      | int j =>
        have e : (if cDiv j = true then some (D.int (i.fdiv j)) else none) = some z := e
        split at e
        · rename_i hf
          cases e
          have hf := Bool.and_eq_true_iff.mp hf
          refine op_fdivN pins s σ H x y v u Q I rx ry ⟨i, j, ra, rb, ⟨?_, of_decide_eq_true hf.2⟩, q _ rfl⟩
          have := hf.1
          simpa using this
        · cases e
      | _ => cases e
    | _ => cases b <;> cases e
  | _ => cases e

/-- a comparison -/
def rCmp (C : Ctx) (op : CmpOp) : R2 := fun x y H Q => Two C x y H fun θ F a b => ∃ z, cmpD op a b = some z ∧ Q (.bl z) H
omit hK in
theorem pEq_some {a b : D} {z : Bool} (h : pEq a b = some z) : ∃ p q, toP a = some p ∧ toP b = some q ∧ SeqAt.shaped p = true ∧ SeqAt.shaped q = true ∧ z = PyData.eqv p q := by
  unfold pEq at h
  split at h
  · rename_i p q e1 e2
    split at h
    · rename_i hs
      have hs := Bool.and_eq_true_iff.mp hs
      cases h
      exact ⟨p, q, e1, e2, hs.1, hs.2, rfl⟩
    · cases h
  · cases h
omit hK in
theorem pCmp_some {f : PyData → PyData → Bool} {a b : D} {z : Bool} (h : pCmp f a b = some z) : ∃ p q, toP a = some p ∧ toP b = some q ∧ PySem.W.alike p q = true ∧ p ≠ .none ∧ p.depth ≤ 64 ∧ z = f p q := by
  unfold pCmp at h
  split at h
  · rename_i p q e1 e2
    split at h
    · rename_i hs
      have hs := Bool.and_eq_true_iff.mp hs
      have h1 := Bool.and_eq_true_iff.mp hs.1
      cases h
      refine ⟨p, q, e1, e2, h1.1, fun hp => ?_, of_decide_eq_true hs.2, rfl⟩
      rw [hp] at h1
      simp [PyData.eqv] at h1
    · cases h
  · cases h
omit hK in
theorem key_kV {kd : D} {k : Key} (h : toKey kd = some k) {θ : Toks} {F : Hp} {v : V} (r : R C θ F kd v) : v = kV k := by
  cases kd <;> first | (cases h; exact r) | (cases h)
omit hK in
theorem keyEq_key {a b : D} {x y : Key} (h1 : toKey a = some x) (h2 : toKey b = some y) : keyEq a b = decide (x = y) := by
  unfold keyEq
  rw [h1, h2]
omit hK in
theorem keysK_key {kvs : List (D × D)} {k : D} (h : keysK kvs k = true) : ∃ x, toKey k = some x := Option.isSome_iff_exists.mp (Bool.and_eq_true_iff.mp h).1
omit hK in
/-- a look-up -/
theorem RK.look {θ : Toks} {F : Hp} {k : D} {x : Key} (hk : toKey k = some x) : ∀ {kvs : List (D × D)} {ks : List (Key × V)}, RK C θ F kvs ks →
    (dLook kvs k = none ∧ valV ks x = none) ∨ ∃ d v, dLook kvs k = some d ∧ valV ks x = some v ∧ R C θ F d v
  | [], ks, h => by
    cases (show ks = [] from h)
    exact .inl ⟨rfl, rfl⟩
  | (kd, d) :: r, ks, h => by
    obtain ⟨y, v, r', rfl, hy, rd, rr⟩ := h
    have e := keyEq_key hy hk
    by_cases hc : y = x
    · subst hc
      refine .inr ⟨d, v, ?_, valV_pos rfl, rd⟩
      unfold dLook
      rw [List.find?_cons, e, decide_eq_true rfl]
      rfl
    · have ih := RK.look hk rr
      have e1 : dLook ((kd, d) :: r) k = dLook r k := by
        unfold dLook
        rw [List.find?_cons, e, decide_eq_false hc]
      rw [e1, valV_neg hc]
      exact ih
theorem c_in (hu : X.A.units + 65 < cLine) {pins : List (Addr × Obj)} {s : Shared} {σ : L2.St} {H F G : Hp} {θ : Toks} {x y : V} {v u : Value} {Q : VK} {a b : D} {z : Bool} (neg : Bool) (I : Inv X pins σ H s) (rx : RelV x v) (ry : RelV y u) (l1 : Le F G) (l2 : Le G H)
    (ra : RB C θ F G a x) (rb : RB C θ F G b y) (e : inD a b = some z) (q : Q (.bl (if neg then !z else z)) H) :
    wpAny (model X.prog X.w) X.A (compareOp (if neg then .NotIn else .In) v u) (EP X pins σ Q) X.xe s := by
  cases b with
  | lst ds =>
    have e : (match toP a, toPs ds with
      | some p, some ps => if (SeqAt.shaped p && SeqAt.shaped (.list ps)) = true then some (ps.any fun z => PyData.eqv z p) else none
      | _, _ => none) = some z := e
    split at e
    · rename_i p ps e1 e2
      split at e
      · rename_i hs
        have hs := Bool.and_eq_true_iff.mp hs
        cases e
        obtain ⟨as, r1⟩ := RB.reads hK I l1 l2 ra rx e1
        obtain ⟨bs, r2⟩ := RB.reads (p := .list ps) hK I l1 l2 rb ry (by show (toPs ds).map PyData.list = _; rw [e2]; rfl)
        cases neg with
        | false => exact SeqAt.in_list_reads r2 r1 (SeqAt.canLay_of_shaped hs.2) (SeqAt.canLay_of_shaped hs.1) (room_in_shaped hs.1 hu) ⟨.bl _, H, I, rfl, q⟩
        | true => exact SeqAt.notIn_list_reads r2 r1 (SeqAt.canLay_of_shaped hs.2) (SeqAt.canLay_of_shaped hs.1) (room_in_shaped hs.1 hu) ⟨.bl _, H, I, rfl, q⟩
      · cases e
    · cases e
  | tup ds =>
    have e : (match toP a, toPs ds with
      | some p, some ps => if (SeqAt.shaped p && SeqAt.shaped (.list ps)) = true then some (ps.any fun z => PyData.eqv z p) else none
      | _, _ => none) = some z := e
    split at e
    · rename_i p ps e1 e2
      split at e
      · rename_i hs
        have hs := Bool.and_eq_true_iff.mp hs
        cases e
        obtain ⟨as, r1⟩ := RB.reads hK I l1 l2 ra rx e1
        obtain ⟨bs, r2⟩ := RB.reads (p := .tuple ps) hK I l1 l2 rb ry (by show (toPs ds).map PyData.tuple = _; rw [e2]; rfl)
        cases neg with
        | false => exact SeqAt.in_tuple_reads r2 r1 (SeqAt.canLay_of_shaped hs.2) (SeqAt.canLay_of_shaped hs.1) (room_in_shaped hs.1 hu) ⟨.bl _, H, I, rfl, q⟩
        | true => exact SeqAt.notIn_tuple_reads r2 r1 (SeqAt.canLay_of_shaped hs.2) (SeqAt.canLay_of_shaped hs.1) (room_in_shaped hs.1 hu) ⟨.bl _, H, I, rfl, q⟩
      · cases e
    · cases e
  | str w =>
    cases a with
    | str y1 =>
      have e : (if y1.cps.size = 1 then some (decide ((y1.cps.toList.headD 0) ∈ w.cps.toList)) else none) = some z := e
      split at e
      · rename_i h1
        cases e
        have hy : y1 = ⟨#[y1.cps.toList.headD 0]⟩ := by
          obtain ⟨⟨l⟩⟩ := y1
          match l, h1 with
          | [c], _ => rfl
        cases neg with
        | false => exact op_in_sign pins s σ H x y v u Q I rx ry ⟨_, w, (show x = V.str y1 from ra).trans (congrArg V.str hy), rb, q⟩
        | true => exact op_notIn_sign pins s σ H x y v u Q I rx ry ⟨_, w, (show x = V.str y1 from ra).trans (congrArg V.str hy), rb, q⟩
      · cases e
    | _ => cases e
  | dct kvs =>
    have e : (if keysK kvs a = true then some (dLook kvs a).isSome else none) = some z := e
    split at e
    · rename_i hk
      cases e
      obtain ⟨key, ek⟩ := keysK_key hk
      obtain ⟨p, ks, e1, h1, r1⟩ := rb
      subst e1
      have hx : x = kV key := by
        refine key_kV (C := C) (θ := θ) (F := G) ek ?_
        exact RB.r l1 ra
      have g : DGet H p x (valV ks key) := .inl ⟨ks, key, l2.rd h1, hx, rfl⟩
      have hl : (dLook kvs a).isSome = (valV ks key).isSome := by
        rcases RK.look ek r1 with ⟨e1, e2⟩ | ⟨d, v, e1, e2, _⟩
        · rw [e1, e2]; rfl
        · rw [e1, e2]; rfl
      rw [hl] at q
      cases ry
      cases neg with
      | false => exact d_in (by omega) I g rx fun s' I' => ⟨.bl _, H, I', rfl, q⟩
      | true => exact d_notIn (by omega) I g rx fun s' I' => ⟨.bl _, H, I', rfl, q⟩
    · cases e
  | _ => cases e
theorem op_cmp (hu : X.A.units + 65 < cLine) (op : CmpOp) : OpR X (compareOp op) (rCmp C op) := by
  intro pins s σ H x y v u Q I rx ry h
  obtain ⟨θ, F, G, a, b, l1, l2, ra, rb, z, e, q⟩ := h
  have hu1 : X.A.units + 64 < cLine := by omega
  cases op with
  | Eq =>
    obtain ⟨p, p2, e1, e2, s1, s2, rfl⟩ := pEq_some e
    obtain ⟨as, r1⟩ := RB.reads hK I l1 l2 ra rx e1
    obtain ⟨bs, r2⟩ := RB.reads hK I l1 l2 rb ry e2
    exact SeqAt.compareEq_shaped r1 r2 s1 s2 hu1 ⟨.bl _, H, I, rfl, q⟩
  | NotEq =>
    obtain ⟨z', ez, rfl⟩ := Option.map_eq_some_iff.mp (show (pEq a b).map (!·) = some z from e)
    obtain ⟨p, p2, e1, e2, s1, s2, rfl⟩ := pEq_some ez
    obtain ⟨as, r1⟩ := RB.reads hK I l1 l2 ra rx e1
    obtain ⟨bs, r2⟩ := RB.reads hK I l1 l2 rb ry e2
    exact SeqAt.compareNe_shaped r1 r2 s1 s2 hu1 ⟨.bl _, H, I, rfl, q⟩
  | Lt =>
    obtain ⟨p, p2, e1, e2, al, nn, dp, rfl⟩ := pCmp_some e
    obtain ⟨as, r1⟩ := RB.reads hK I l1 l2 ra rx e1
    obtain ⟨bs, r2⟩ := RB.reads hK I l1 l2 rb ry e2
    exact PySem.W.lt_data r1 r2 al nn (by have := Nat.min_le_left p.depth p2.depth; omega) ⟨.bl _, H, I, rfl, q⟩
  | Gt =>
    obtain ⟨p, p2, e1, e2, al, nn, dp, rfl⟩ := pCmp_some e
    obtain ⟨as, r1⟩ := RB.reads hK I l1 l2 ra rx e1
    obtain ⟨bs, r2⟩ := RB.reads hK I l1 l2 rb ry e2
    exact PySem.W.gt_data r1 r2 al nn (by have := Nat.min_le_left p.depth p2.depth; omega) ⟨.bl _, H, I, rfl, q⟩
  | LtE =>
    obtain ⟨p, p2, e1, e2, al, nn, dp, rfl⟩ := pCmp_some e
    obtain ⟨as, r1⟩ := RB.reads hK I l1 l2 ra rx e1
    obtain ⟨bs, r2⟩ := RB.reads hK I l1 l2 rb ry e2
    exact PySem.W.le_data r1 r2 al nn (by have := Nat.min_le_left p.depth p2.depth; omega) ⟨.bl _, H, I, rfl, q⟩
  | GtE =>
    obtain ⟨p, p2, e1, e2, al, nn, dp, rfl⟩ := pCmp_some e
    obtain ⟨as, r1⟩ := RB.reads hK I l1 l2 ra rx e1
    obtain ⟨bs, r2⟩ := RB.reads hK I l1 l2 rb ry e2
    exact PySem.W.ge_data r1 r2 al nn (by have := Nat.min_le_left p.depth p2.depth; omega) ⟨.bl _, H, I, rfl, q⟩
  | In => exact c_in hK hu false I rx ry l1 l2 ra rb e q
  | NotIn =>
    obtain ⟨z', ez, rfl⟩ := Option.map_eq_some_iff.mp (show (inD a b).map (!·) = some z from e)
    exact c_in hK hu true I rx ry l1 l2 ra rb ez q
  | _ => cases e
end
end Ev
/-! EvA -/
namespace Ev
open PySem PySem.Spec PyProof.Rows L2

/-! ### min and max of two strings -/
def strAt (a b : Str) : Nat → Str
  | 0 => a
  | _ => b
theorem cmpOf_str_lt {prog : Program} {w : World} {A : Around} {P : Nat → Value → Prop} (val : Nat → Str) (hval : ∀ i v, P i v → ∃ t, v = .str (val i) t) :
    CmpOf prog w A .Lt P (fun i j => ltS (val i) (val j)) := fun i j vi vj s Q E hi hj h => by
  obtain ⟨t, rfl⟩ := hval i vi hi
  obtain ⟨u, rfl⟩ := hval j vj hj
  exact (show wpAny (model prog w) A (compareOp .Lt _ _) Q E s from PySem.P.lt_str h)
theorem cmpOf_str_gt {prog : Program} {w : World} {A : Around} {P : Nat → Value → Prop} (val : Nat → Str) (hval : ∀ i v, P i v → ∃ t, v = .str (val i) t) :
    CmpOf prog w A .Gt P (fun i j => ltS (val j) (val i)) := fun i j vi vj s Q E hi hj h => by
  obtain ⟨t, rfl⟩ := hval i vi hi
  obtain ⟨u, rfl⟩ := hval j vj hj
  exact (show wpAny (model prog w) A (compareOp .Gt _ _) Q E s from PySem.P.gt_str h)
theorem strAt_of {a b : Str} {t u : Tok} {i : Nat} {v : Value} (h : (#[Value.str a t, Value.str b u] : Array Value)[i]? = some v) : ∃ t', v = .str (strAt a b i) t' := by
  match i, h with
  | 0, h => exact ⟨t, by simpa [strAt] using h.symm⟩
  | 1, h => exact ⟨u, by simpa [strAt] using h.symm⟩
  | n + 2, h => simp at h
section
variable {prog : Program} {w : World} {A : Around} {E : Value → Shared → Prop} {s : Shared}
theorem min_two_strs {a b : Str} {t u : Tok} {Q : Value → Shared → Prop} (hh : A.handled = none)
    (h : ∀ h' tk t', (∀ c o, s.heap.get? c = some o → h'.get? c = some o) → Q (.str (if ltS b a then b else a) t') { s with heap := h', toks := tk }) :
    wpAny (model prog w) A (call (.builtin "min") [.str a t, .str b u]) Q E s := by
  have hT : (s.heap.push { cls := .type "tuple", data := .seq #[.str a t, .str b u] }).IsTuple s.heap.objs.size #[.str a t, .str b u] := ⟨_, Heap.get?_push_size _ rfl, rfl, 0, rfl⟩
  refine call_min_two (wpAny_pyIter_tuple hT ?_)
  have hsz : (s.heap.push { cls := .type "tuple", data := .seq #[.str a t, .str b u] }).objs.size = s.heap.objs.size + 1 := Heap.size_push ..
  refine ⟨_, [_, s.heap.objs.size], [_], _, _, _, _, rfl, Walks.tuple (A := A.in1) hh _ s.heap.objs.size (by rw [hsz]; exact Nat.ne_of_lt (Nat.lt_succ_self _)) #[.str a t, .str b u],
    ⟨⟨_, Heap.get?_push_size _ rfl, rfl, rfl⟩, hT.push _⟩, fun c hc => ?_, by simp, cmpOf_str_lt (strAt a b) (fun _ _ => strAt_of), fun v h' tk hP hk => ?_⟩
  · show c < ((s.heap.push _).push _).objs.size
    rw [Heap.size_push, hsz]
    rcases List.mem_cons.mp hc with rfl | hc
    · rw [hsz]; exact Nat.lt_succ_self _
    · rcases List.mem_cons.mp hc with rfl | hc
      · exact Nat.lt_succ_of_lt (Nat.lt_succ_self _)
      · cases hc
  · have hold : ∀ c o, s.heap.get? c = some o → h'.get? c = some o := fun c o e => by
      refine hk c o (fun hm => ?_) (Heap.get?_push_of_some _ (Heap.get?_push_of_some _ e))
      rcases List.mem_cons.mp hm with e1 | hm
      · have := Heap.lt_size e; rw [e1, hsz] at this; exact Nat.lt_irrefl _ (Nat.lt_of_succ_lt this)
      · cases hm
    obtain ⟨t', rfl⟩ := strAt_of hP
    have := h h' tk t' hold
    have e : strAt a b (argBest (fun i j => ltS (strAt a b i) (strAt a b j)) ((#[Value.str a t, Value.str b u] : Array Value).size - 1)) = if ltS b a then b else a := by
      show strAt a b (if ltS b a = true then 1 else 0) = _
      by_cases hba : ltS b a = true
      · rw [if_pos hba, if_pos hba]; rfl
      · rw [if_neg hba, if_neg hba]; rfl
    rw [e]
    exact this
theorem max_two_strs {a b : Str} {t u : Tok} {Q : Value → Shared → Prop} (hh : A.handled = none)
    (h : ∀ h' tk t', (∀ c o, s.heap.get? c = some o → h'.get? c = some o) → Q (.str (if ltS a b then b else a) t') { s with heap := h', toks := tk }) :
    wpAny (model prog w) A (call (.builtin "max") [.str a t, .str b u]) Q E s := by
  have hT : (s.heap.push { cls := .type "tuple", data := .seq #[.str a t, .str b u] }).IsTuple s.heap.objs.size #[.str a t, .str b u] := ⟨_, Heap.get?_push_size _ rfl, rfl, 0, rfl⟩
  refine call_max_two (wpAny_pyIter_tuple hT ?_)
  have hsz : (s.heap.push { cls := .type "tuple", data := .seq #[.str a t, .str b u] }).objs.size = s.heap.objs.size + 1 := Heap.size_push ..
  refine ⟨_, [_, s.heap.objs.size], [_], _, _, _, _, rfl, Walks.tuple (A := A.in1) hh _ s.heap.objs.size (by rw [hsz]; exact Nat.ne_of_lt (Nat.lt_succ_self _)) #[.str a t, .str b u],
    ⟨⟨_, Heap.get?_push_size _ rfl, rfl, rfl⟩, hT.push _⟩, fun c hc => ?_, by simp, cmpOf_str_gt (strAt a b) (fun _ _ => strAt_of), fun v h' tk hP hk => ?_⟩
  · show c < ((s.heap.push _).push _).objs.size
    rw [Heap.size_push, hsz]
    rcases List.mem_cons.mp hc with rfl | hc
    · rw [hsz]; exact Nat.lt_succ_self _
    · rcases List.mem_cons.mp hc with rfl | hc
      · exact Nat.lt_succ_of_lt (Nat.lt_succ_self _)
      · cases hc
  · have hold : ∀ c o, s.heap.get? c = some o → h'.get? c = some o := fun c o e => by
      refine hk c o (fun hm => ?_) (Heap.get?_push_of_some _ (Heap.get?_push_of_some _ e))
      rcases List.mem_cons.mp hm with e1 | hm
      · have := Heap.lt_size e; rw [e1, hsz] at this; exact Nat.lt_irrefl _ (Nat.lt_of_succ_lt this)
      · cases hm
    obtain ⟨t', rfl⟩ := strAt_of hP
    have := h h' tk t' hold
    have e : strAt a b (argBest (fun i j => ltS (strAt a b j) (strAt a b i)) ((#[Value.str a t, Value.str b u] : Array Value).size - 1)) = if ltS a b then b else a := by
      show strAt a b (if ltS a b = true then 1 else 0) = _
      by_cases hba : ltS a b = true
      · rw [if_pos hba, if_pos hba]; rfl
      · rw [if_neg hba, if_neg hba]; rfl
    rw [e]
    exact this
end
end Ev
/-! EvR -/
namespace Ev
open PySem PySem.Spec PyProof.Rows L2
open PySem.W (sortingHeap sortingHeap_old EachIs AllAlike Sortable SortsAt dataKind dataLe sortVals sortVals_length sortVals_data each_map bound_map)
/-! ### sorted, of whatever can be collected -/
section
variable {prog : Program} {w : World} {A : Around} {E : Value → Shared → Prop} {s : Shared} {β : Type} {vs : List Value} {bs : List β} {enc : β → PyData} {R : Value → β → Prop}
theorem sorted_coll {r : Value} {Q : Value → Shared → Prop}
    (coll : ∀ (Q' : List Value → Shared → Prop) (E' : Value → Shared → Prop), (∀ h' tk, (∀ b o, s.heap.get? b = some o → h'.get? b = some o) → Q' vs { s with heap := h', toks := tk }) → wpAny (model prog w) A.in1 (collect r) Q' E' s)
    (e : EachIs R vs bs) (er : EachIs (fun v b => ∃ as, Reads s.heap v (enc b) as) vs bs) (hal : AllAlike (bs.map enc)) (hk : Sortable (bs.map enc)) (hL : bs.length ≤ sizeLine)
    (hu : ∀ b, b ∈ bs → A.units + 2 + (enc b).depth < cLine)
    (h : ∀ (out : List Value) (h1 h' : Heap) (tk c : Nat), out.length = bs.length → EachIs R out (bs.mergeSort (dataLe false enc)) → (∀ b o, s.heap.get? b = some o → h1.get? b = some o) → (∀ b o, h1.get? b = some o → h'.get? b = some o) → h'.get? h1.objs.size = some (seqObj "list" (List.toArray out) c) → Q (.ref h1.objs.size) { s with heap := h', toks := tk }) :
    wpAny (model prog w) A (call (.builtin "sorted") [r]) Q E s := by
  have hvl : vs.length ≤ sizeLine := by rw [e.length]; exact hL
  refine Calls.call_function_entry PyProof.Rows.kind_sorted PyProof.Rows.plain_sorted PyProof.Rows.entry_sorted (PyProof.Rows.args_sorted1 _) ?_
  unfold Builtin.«sorted»
  refine wpAny_bind (m := checkCount "sorted" 1 1 _) (wpAny_pure ?_)
  refine wpAny_bind (coll _ _ fun h' tk hkp => ?_)
  refine wpAny_bind (wpAny_newList ?_ hvl)
  have hoL : (h'.push (seqObj "list" vs.toArray 0)).get? h'.objs.size = some (seqObj "list" vs.toArray 0) := Heap.get?_push_size _ rfl
  show wpAny _ _ _ _ _ { s with heap := h'.push (seqObj "list" vs.toArray 0), toks := tk }
  have old : ∀ b o, s.heap.get? b = some o → (h'.push (seqObj "list" vs.toArray 0)).get? b = some o := fun b o q => Heap.get?_push_of_some _ (hkp b o q)
  have hn1 : ∀ b o, h'.get? b = some o → b ≠ h'.objs.size := fun b o q => Nat.ne_of_lt (Heap.lt_size q)
  have hne : ∀ b o, s.heap.get? b = some o → b ≠ h'.objs.size := fun b o q => hn1 b o (hkp b o q)
  have er' : EachIs (fun v b => ∃ as, Reads (sortingHeap (h'.push (seqObj "list" vs.toArray 0)) h'.objs.size vs) v (enc b) as) vs bs := er.mono fun _ _ ⟨as, r⟩ => ⟨as, PyProof.Rows.Reads.keeps (fun b o q => sortingHeap_old (hne b o q) (old b o q)) r⟩
  refine wpAny_bind (wpAny_holding (wpAny_call_entry slot_list_sort ⟨_, hoL, rfl⟩ entry_list_sort (PySem.W.list_sort_vals (κ := dataKind (sortingHeap (h'.push (seqObj "list" vs.toArray 0)) h'.objs.size vs) (bs.map enc)) (s := { s with heap := h'.push (seqObj "list" vs.toArray 0), toks := tk }) hoL
    (SortsAt.data (s := { s with heap := sortingHeap (h'.push (seqObj "list" vs.toArray 0)) h'.objs.size vs, toks := tk }) (each_map (R := fun v d => ∃ as, Reads (sortingHeap (h'.push (seqObj "list" vs.toArray 0)) h'.objs.size vs) v d as) enc er') hal hk (bound_map hu)) hvl ⟨.none, rfl, ?_⟩) (args_list_sort _)))
  obtain ⟨c, hc⟩ := sortedHeap_at (vs := vs) (out := (sortVals (dataKind (sortingHeap (h'.push (seqObj "list" vs.toArray 0)) h'.objs.size vs) (bs.map enc)) false vs vs).toArray) hoL
  refine wpAny_pure ⟨_, rfl, h _ h' _ tk c (by rw [sortVals_length false rfl]; exact e.length) (sortVals_data false e er' hal) hkp (fun b o q => (sortedHeap_old (hn1 b o q) (Heap.lt_size (Heap.get?_push_of_some _ q))).trans (Heap.get?_push_of_some _ q)) hc⟩
end
end Ev
/-! EvP2 -/
namespace Ev
open PySem PySem.Spec PyProof.Rows L2
def RBs (C : Ctx) (θ : Toks) (F G : Hp) : List D → List V → Prop
  | [], vs => vs = []
  | d :: ds, vs => ∃ v r, vs = v :: r ∧ RB C θ F G d v ∧ RBs C θ F G ds r
theorem Rs.rel {C : Ctx} {θ : Toks} {F : Hp} : ∀ {ds : List D} {vs : List V} {us : List Value}, Rs C θ F ds vs → Vals vs us → PySem.W.EachIs (fun u d => ∃ x, RelV x u ∧ R C θ F d x) us ds
  | [], vs, us, h, r => by
    cases (show vs = [] from h)
    cases r
    exact .nil
  | d :: ds, vs, us, h, r => by
    obtain ⟨v, r', rfl, q, z⟩ := h
    cases r with
    | cons r1 r2 => exact .cons ⟨v, r1, q⟩ (Rs.rel z r2)
theorem each_vals {C : Ctx} {θ : Toks} {F : Hp} : ∀ {us : List Value} {ds : List D}, PySem.W.EachIs (fun u d => ∃ x, RelV x u ∧ R C θ F d x) us ds → ∃ vs, Vals vs us ∧ Rs C θ F ds vs
  | _, _, .nil => ⟨[], .nil, rfl⟩
  | _, _, .cons ⟨x, r, q⟩ t => by
    obtain ⟨vs, r1, q1⟩ := each_vals t
    exact ⟨x :: vs, .cons r r1, x, vs, rfl, q, q1⟩
theorem toPs_enc : ∀ {ds : List D} {ps : List PyData}, toPs ds = some ps → ps = ds.map encD
  | [], ps, h => by cases h; rfl
  | d :: ds, ps, h => by
    have h : (match toP d, toPs ds with
      | some p, some ps => some (p :: ps)
      | _, _ => none) = some ps := h
    cases e1 : toP d with
    | none => rw [e1] at h; cases h
    | some p =>
      cases e2 : toPs ds with
      | none => rw [e1, e2] at h; cases h
      | some qs =>
        rw [e1, e2] at h
        cases h
        have e : encD d = p := by unfold encD; rw [e1]; rfl
        rw [List.map_cons, e, ← toPs_enc e2]
theorem toPs_at : ∀ {ds : List D} {ps : List PyData}, toPs ds = some ps → ∀ d ∈ ds, toP d = some (encD d)
  | [], ps, h => fun d hd => by cases hd
  | d :: ds, ps, h => by
    have h : (match toP d, toPs ds with
      | some p, some ps => some (p :: ps)
      | _, _ => none) = some ps := h
    cases e1 : toP d with
    | none => rw [e1] at h; cases h
    | some p =>
      cases e2 : toPs ds with
      | none => rw [e1, e2] at h; cases h
      | some qs =>
        intro x hx
        rcases List.mem_cons.mp hx with rfl | hx
        · unfold encD; rw [e1]; rfl
        · exact toPs_at e2 x hx
theorem alikeB_ok {ps : List PyData} (h : alikeB ps = true) : ∀ d, d ∈ ps → ∀ d', d' ∈ ps → PySem.W.alike d d' = true := fun d hd d' hd' => List.all_eq_true.mp (List.all_eq_true.mp h d hd) d' hd'
theorem bools_ok {C : Ctx} {θ : Toks} {F : Hp} : ∀ {ds : List D} {bs : List Bool} {vs : List V}, bools ds = some bs → Rs C θ F ds vs → vs = bs.map V.bl
  | [], bs, vs, h, r => by
    cases h
    exact r
  | d :: ds, bs, vs, h, r => by
    obtain ⟨v, r', rfl, q, z⟩ := r
    cases d with
    | bl b =>
      have h : (match bools ds with
        | some bs => some (b :: bs)
        | none => none) = some bs := h
      cases e : bools ds with
      | none => rw [e] at h; cases h
      | some cs =>
        rw [e] at h
        cases h
        rw [bools_ok e z, show v = V.bl b from q]
        rfl
    | _ => cases h
theorem RK.length {C : Ctx} {θ : Toks} {F : Hp} : ∀ {ds : List (D × D)} {ks : List (Key × V)}, RK C θ F ds ks → ks.length = ds.length
  | [], ks, h => by cases (show ks = [] from h); rfl
  | (a, b) :: ds, ks, h => by
    obtain ⟨k, v, r, rfl, _, _, z⟩ := h
    rw [List.length_cons, List.length_cons, RK.length z]
/-- a store -/
theorem RK.put {C : Ctx} {θ : Toks} {F : Hp} {k : D} {x : Key} (hk : toKey k = some x) {d : D} {v : V} (rv : R C θ F d v) {kvs : List (D × D)} {ks : List (Key × V)} (h : RK C θ F kvs ks) : RK C θ F (dPut kvs k d) (putK ks x v) := by
  have app : ∀ {kvs : List (D × D)} {ks : List (Key × V)}, RK C θ F kvs ks → RK C θ F (kvs ++ [(k, d)]) (ks ++ [(x, v)]) := by
    intro kvs
    induction kvs with
    | nil => intro ks h; cases (show ks = [] from h); exact ⟨x, v, [], rfl, hk, rv, rfl⟩
    | cons p r ih =>
      intro ks h
      obtain ⟨kd, d'⟩ := p
      obtain ⟨y, w, r', rfl, hy, rd, rr⟩ := h
      exact ⟨y, w, _, rfl, hy, rd, ih rr⟩
  have mp : ∀ {kvs : List (D × D)} {ks : List (Key × V)}, RK C θ F kvs ks → RK C θ F (kvs.map (fun p => if keyEq p.1 k = true then (p.1, d) else p)) (ks.map (fun kv => if kv.1 = x then (kv.1, v) else kv)) := by
    intro kvs
    induction kvs with
    | nil => intro ks h; cases (show ks = [] from h); rfl
    | cons p r ih =>
      intro ks h
      obtain ⟨kd, d'⟩ := p
      obtain ⟨y, w, r', rfl, hy, rd, rr⟩ := h
      have e := keyEq_key hy hk
      by_cases hc : y = x
      · subst hc
        rw [List.map_cons, if_pos (by rw [e]; simp)]
        exact ⟨y, v, _, by rw [List.map_cons, if_pos rfl], hy, rv, ih rr⟩
      · rw [List.map_cons, if_neg (by rw [e]; simpa using hc)]
        exact ⟨y, w, _, by rw [List.map_cons, if_neg hc], hy, rd, ih rr⟩
  have an : ∀ {kvs : List (D × D)} {ks : List (Key × V)}, RK C θ F kvs ks → (kvs.any fun p => keyEq p.1 k) = (ks.any fun kv => decide (kv.1 = x)) := by
    intro kvs
    induction kvs with
    | nil => intro ks h; cases (show ks = [] from h); rfl
    | cons p r ih =>
      intro ks h
      obtain ⟨kd, d'⟩ := p
      obtain ⟨y, w, r', rfl, hy, rd, rr⟩ := h
      rw [List.any_cons, List.any_cons, ih rr, keyEq_key hy hk]
  unfold dPut putK
  rw [an h]
  split
  · exact mp h
  · exact app h
theorem paired_mono {α β : Type} {P P' : α → β → Prop} (h : ∀ a b, P a b → P' a b) {xs : List α} {ys : List β} (p : Paired P xs ys) : Paired P' xs ys := by
  induction p with
  | nil => exact .nil
  | cons a _ ih => exact .cons (h _ _ a) ih
theorem putAll_ok {C : Ctx} {θ : Toks} {F : Hp} : ∀ {ds : List D} {acc kvs : List (D × D)} {vs : List V} {ks : List (Key × V)}, putAll acc ds = some kvs → Rs C θ F ds vs → RK C θ F acc ks →
    ∃ (ps : List Addr) (prs : List (Key × V)), vs = ps.map V.ref ∧ Paired (fun p kv => SqT C.K F p [kV kv.1, kv.2]) ps prs ∧ RK C θ F kvs (mergeK ks prs)
  | [], acc, kvs, vs, ks, h, r, ra => by
    cases h
    cases (show vs = [] from r)
    exact ⟨[], [], rfl, .nil, ra⟩
  | d :: ds, acc, kvs, vs, ks, h, r, ra => by
    unfold putAll at h
    split at h
    · rename_i acc' heq; cases heq
    · rename_i acc' k v r' heq
      injection heq with e1 e2
      subst e1 e2
      split at h
      · rename_i hk
        obtain ⟨x, ek⟩ := keysK_key hk
        obtain ⟨w, r2, rfl, q, z⟩ := r
        obtain ⟨a, ws, rfl, hs, y1, r3, rfl, q1, y2, r4, rfl, q2, e3⟩ := q
        cases (show r4 = [] from e3)
        have ey := key_kV ek q1
        subst ey
        obtain ⟨ps, prs, rfl, hp, hr⟩ := putAll_ok h z (RK.put ek q2 ra)
        exact ⟨a :: ps, (x, y2) :: prs, rfl, .cons hs hp, hr⟩
      · cases h
    · cases h
section
variable {C : Ctx} {X : Cx} (hK : X.K = C.K)
include hK
def biV (b : Bi) : Value := match b with
  | .len => .builtin "len"
  | .sorted => .builtin "sorted"
  | .list => .type "list"
  | .tuple => .type "tuple"
  | .all => .builtin "all"
  | .any => .builtin "any"
  | .min => .builtin "min"
  | .max => .builtin "max"
  | .int => .type "int"
  | .abs => .builtin "abs"
  | .dict => .type "dict"
  | .str => .type "str"
  | .sum => .builtin "sum"
def rBi (C : Ctx) (b : Bi) : List V → Hp → VK → Prop := fun xs H Q => ∃ θ F G as z, Le F G ∧ Le G H ∧ RBs C θ F G as xs ∧ biD b as = some z ∧ Del C θ F z H Q
omit hK in
theorem rbs1 {θ : Toks} {F G : Hp} {d : D} {xs : List V} (h : RBs C θ F G [d] xs) : ∃ v, xs = [v] ∧ RB C θ F G d v := by
  obtain ⟨v, r, rfl, q, z⟩ := h
  cases (show r = [] from z)
  exact ⟨v, rfl, q⟩
omit hK in
theorem rbs2 {θ : Toks} {F G : Hp} {d e : D} {xs : List V} (h : RBs C θ F G [d, e] xs) : ∃ v w, xs = [v, w] ∧ RB C θ F G d v ∧ RB C θ F G e w := by
  obtain ⟨v, r, rfl, q, z⟩ := h
  obtain ⟨w, rfl, q2⟩ := rbs1 z
  exact ⟨v, w, rfl, q, q2⟩
omit hK in
theorem ofS_v {p : PyData} {z : D} (h : ofS p = some z) {hp : Heap} {u : Value} {bs : List Addr} (r : Reads hp u p bs) (θ : Toks) (F : Hp) : ∃ v, RelV v u ∧ R C θ F z v := by
  cases p with
  | int i =>
    cases h
    cases r
    exact ⟨.int i, ⟨_, rfl⟩, rfl⟩
  | str i =>
    cases h
    cases r
    exact ⟨.str i, ⟨_, rfl⟩, rfl⟩
  | _ => cases h
omit hK in
theorem del_s {θ : Toks} {F H : Hp} {Q : VK} {p : PyData} {z : D} (h : ofS p = some z) (q : Del C θ F z H Q) : ∀ v, R C θ F z v → Q v H := by
  cases p with
  | int i => cases h; exact q
  | str i => cases h; exact q
  | _ => cases h
omit hK in
theorem bestD_some {f : PyData → List PyData → PyData} {ds : List D} {z : D} (h : bestD f ds = some z) : ∃ p ps, toPs ds = some (p :: ps) ∧ PySem.W.AlikeAll (p :: ps) ∧ PyData.depthAll (p :: ps) ≤ 64 ∧ ofS (f p ps) = some z := by
  unfold bestD at h
  split at h
  · rename_i p ps e
    split at h
    · rename_i hc
      simp only [Bool.and_eq_true, decide_eq_true_eq] at hc
      obtain ⟨⟨h1, h2⟩, h3⟩ := hc
      refine ⟨p, ps, e, ⟨fun x hx y hy => alikeB_ok h1 x hx y hy, fun x hx e => ?_⟩, h3, h⟩
      have := List.all_eq_true.mp h2 x hx
      rw [e] at this
      cases this
    · cases h
  · cases h
theorem cr_bi (hc : X.calm = true) (hu : X.A.units + 200 < cLine) (b : Bi) : CallR X (biV b) (rBi C b) := by
  intro pins s σ H xs us Q I r h
  obtain ⟨θ, F, G, as, z, l1, l2, ra, e, q⟩ := h
  cases b with
  | len =>
    change biD .len as = some z at e
    unfold biD at e
    simp only at e
    split at e
    · rename_i ds
      cases e
      obtain ⟨v, rfl, p, vs, rfl, hp, r1⟩ := rbs1 ra
      refine call_len pins s σ H [.ref p] us Q I r ⟨.ref p, vs.length, rfl, .inl ⟨vs, SqL.of (l2.lst hp), rfl⟩, ?_⟩
      rw [r1.length]
      exact q _ rfl
    · rename_i ds
      cases e
      obtain ⟨v, rfl, p, vs, rfl, hp, r1⟩ := rbs1 ra
      refine call_len pins s σ H [.ref p] us Q I r ⟨.ref p, vs.length, rfl, .inr ⟨vs, by rw [hK]; exact l2.sqt (l1.sqt hp), rfl⟩, ?_⟩
      rw [r1.length]
      exact q _ rfl
    · rename_i ds
      cases e
      obtain ⟨v, rfl, p, ks, rfl, hp, r1⟩ := rbs1 ra
      obtain ⟨u, eu, ru⟩ := vals1 r
      subst eu
      cases ru
      have el : ks.length = ds.length := RK.length r1
      exact d_len I (l2.rd hp) fun t s' I' => ⟨.int ks.length, H, I', ⟨t, rfl⟩, by rw [el]; exact q _ rfl⟩
    · rename_i w
      split at e
      · rename_i hf
        cases e
        obtain ⟨v, rfl, r1⟩ := rbs1 ra
        cases (show v = V.str w from r1)
        exact call_len pins s σ H [.str w] us Q I r ⟨.str w, w.length, rfl, ⟨fits_ok hf, rfl⟩, q _ rfl⟩
      · cases e
    · cases e
  | sorted =>
    change biD .sorted as = some z at e
    unfold biD at e
    simp only at e
    split at e
    · rename_i ds
      obtain ⟨es, ee, rfl⟩ := Option.map_eq_some_iff.mp e
      obtain ⟨v, rfl, p, vs, rfl, hp, r1⟩ := rbs1 ra
      obtain ⟨u, eu, ru⟩ := vals1 r
      subst eu
      cases ru
      obtain ⟨z1, its, n, rv, hl, eo⟩ := I.lstM (l2.lst hp)
      have ee : (match toPs ds with
        | some ps => if (alikeB ps && ps.all (fun p => decide (p.depth ≤ 64)) && (ps.all tupB1 || ps.all othB) && fits ds.length) = true
          then some (ds.mergeSort (PySem.W.dataLe false encD)) else none
        | none => none) = some es := ee
      cases ep : toPs ds with
      | none => rw [ep] at ee; cases ee
      | some ps =>
        rw [ep] at ee
        simp only at ee
        split at ee
        · rename_i hc
          cases ee
          simp only [Bool.and_eq_true, Bool.or_eq_true] at hc
          obtain ⟨⟨⟨h1, h2⟩, h3⟩, h4⟩ := hc
          have eps : ps = ds.map encD := toPs_enc ep
          subst eps
          have er : PySem.W.EachIs (fun u d => ∃ x, RelV x u ∧ R C θ F d x) its ds := Rs.rel r1 rv
          have er2 : PySem.W.EachIs (fun v b => ∃ as, Reads s.heap v (encD b) as) its ds := by
            have hm := PySem.W.each_mem er
            refine hm.mono fun u d hq => ?_
            obtain ⟨⟨x, rx, qx⟩, hd⟩ := hq
            exact RB.reads hK I l1 l2 (RB.of l1 qx) rx (toPs_at ep d hd)
          refine PySem.W.sorted_data (vs := its) (bs := ds) (enc := encD) (R := fun u d => ∃ x, RelV x u ∧ R C θ F d x) ⟨_, eo, rfl, _, rfl⟩ er er2 (alikeB_ok h1) ?_ (fits_ok h4) (fun b hb => ?_) fun out hlen eo2 => ?_
          · rcases h3 with h3 | h3
            · refine .inl fun d hd => ?_
              have := List.all_eq_true.mp h3 d hd
              unfold tupB1 at this
              split at this
              · exact ⟨_, _, rfl⟩
              · cases this
            · refine .inr fun d hd => ?_
              have := List.all_eq_true.mp h3 d hd
              unfold othB at this
              split at this
              · cases this
              · cases this
              · rename_i n1 n2
                exact ⟨n1, fun xs ex => n2 xs ex⟩
          · have := of_decide_eq_true (List.all_eq_true.mp h2 _ (List.mem_map.mpr ⟨b, hb, rfl⟩))
            omega
          · obtain ⟨ws, rw1, rs1⟩ := each_vals eo2
            obtain ⟨c, hcc⟩ := sortedAll_at s.heap its out.toArray
            have hk : ∀ b o, s.heap.get? b = some o → (sortedAll s.heap its out.toArray).get? b = some o := fun _ _ => sortedAll_old
            have hf : H (s.heap.objs.size + 1) = none := I.hok.fresh (Nat.le_succ _)
            refine ⟨.ref (s.heap.objs.size + 1), upd H (s.heap.objs.size + 1) (.lst ws), I.laid (t' := s.toks) hk (Nat.le_succ _) ?_, rfl, q _ ws hf rs1⟩
            refine ⟨?_, out, c, rw1, hcc⟩
            rw [rs1.length, List.length_mergeSort]
            exact fits_ok h4
        · cases ee
    · rename_i ds
      obtain ⟨es, ee, rfl⟩ := Option.map_eq_some_iff.mp e
      obtain ⟨v, rfl, p, vs, rfl, hp, r1⟩ := rbs1 ra
      obtain ⟨u, eu, ru⟩ := vals1 r
      subst eu
      cases ru
      obtain ⟨its, rv, ht, hz⟩ := I.tuple (show SqT X.K H p vs by rw [hK]; exact l2.sqt (l1.sqt hp))
      have ee : (match toPs ds with
        | some ps => if (alikeB ps && ps.all (fun p => decide (p.depth ≤ 64)) && (ps.all tupB1 || ps.all othB) && fits ds.length) = true
          then some (ds.mergeSort (PySem.W.dataLe false encD)) else none
        | none => none) = some es := ee
      cases ep : toPs ds with
      | none => rw [ep] at ee; cases ee
      | some ps =>
        rw [ep] at ee
        simp only at ee
        split at ee
        · rename_i hc
          cases ee
          simp only [Bool.and_eq_true, Bool.or_eq_true] at hc
          obtain ⟨⟨⟨h1, h2⟩, h3⟩, h4⟩ := hc
          have eps : ps = ds.map encD := toPs_enc ep
          subst eps
          have er : PySem.W.EachIs (fun u d => ∃ x, RelV x u ∧ R C θ F d x) its ds := Rs.rel r1 rv
          have er2 : PySem.W.EachIs (fun v b => ∃ as, Reads s.heap v (encD b) as) its ds := by
            have hm := PySem.W.each_mem er
            refine hm.mono fun u d hq => ?_
            obtain ⟨⟨x, rx, qx⟩, hd⟩ := hq
            exact RB.reads hK I l1 l2 (RB.of l1 qx) rx (toPs_at ep d hd)
          refine sorted_coll (vs := its) (bs := ds) (enc := encD) (R := fun u d => ∃ x, RelV x u ∧ R C θ F d x) (fun Q' E' k => ?_) er er2 (alikeB_ok h1) ?_ (fits_ok h4) (fun b hb => ?_) fun out h1' h' tk c hlen eo2 hk1 hk2 hcc => ?_
          · obtain ⟨o, ho, hc, n, hd⟩ := ht
            have hz' : its.toArray.size ≤ sizeLine := by rw [List.size_toArray, ← rv.length]; exact hz
            exact wpAny_collect_seq p (.inr rfl) ho hc hd (fun h' hk => k h' s.toks hk) hz'
          · rcases h3 with h3 | h3
            · refine .inl fun d hd => ?_
              have := List.all_eq_true.mp h3 d hd
              unfold tupB1 at this
              split at this
              · exact ⟨_, _, rfl⟩
              · cases this
            · refine .inr fun d hd => ?_
              have := List.all_eq_true.mp h3 d hd
              unfold othB at this
              split at this
              · cases this
              · cases this
              · rename_i n1 n2
                exact ⟨n1, fun xs ex => n2 xs ex⟩
          · have := of_decide_eq_true (List.all_eq_true.mp h2 _ (List.mem_map.mpr ⟨b, hb, rfl⟩))
            omega
          · obtain ⟨ws, rw1, rs1⟩ := each_vals eo2
            have I1 : Inv X pins σ H { s with heap := h1' } := I.kept (t' := s.toks) hk1
            have hf : H h1'.objs.size = none := I1.hok.fresh (Nat.le_refl _)
            refine ⟨.ref h1'.objs.size, upd H h1'.objs.size (.lst ws), I1.laid (t' := tk) hk2 (Nat.le_refl _) ?_, rfl, q _ ws hf rs1⟩
            refine ⟨?_, out, c, rw1, hcc⟩
            rw [rs1.length, List.length_mergeSort]
            exact fits_ok h4
        · cases ee
    · cases e
  | list =>
    change biD .list as = some z at e
    unfold biD at e
    simp only at e
    split at e
    · rename_i ds
      cases e
      obtain ⟨v, rfl, p, vs, rfl, hp, r1⟩ := rbs1 ra
      exact call_list_of pins s σ H [.ref p] us Q I r ⟨p, vs, rfl, .inl (SqL.of (l2.lst hp)), fun l hl => q l vs hl r1⟩
    · rename_i ds
      cases e
      obtain ⟨v, rfl, p, vs, rfl, hp, r1⟩ := rbs1 ra
      exact call_list_of pins s σ H [.ref p] us Q I r ⟨p, vs, rfl, .inr (by rw [hK]; exact l2.sqt (l1.sqt hp)), fun l hl => q l vs hl r1⟩
    · cases e
  | tuple =>
    change biD .tuple as = some z at e
    unfold biD at e
    simp only at e
    split at e
    · rename_i ds
      cases e
      obtain ⟨v, rfl, p, vs, rfl, hp, r1⟩ := rbs1 ra
      exact call_tuple_of pins s σ H [.ref p] us Q I r ⟨p, vs, rfl, .inl ⟨SqL.of (l2.lst hp), fun l hl => q.1 l vs hl r1⟩⟩
    · rename_i ds
      cases e
      obtain ⟨v, rfl, r0⟩ := rbs1 ra
      have r0' := r0
      obtain ⟨p, vs, rfl, hp, r1⟩ := r0
      exact call_tuple_of pins s σ H [.ref p] us Q I r ⟨p, vs, rfl, .inr ⟨by rw [hK]; exact l2.sqt (l1.sqt hp), q.2 _ r0'⟩⟩
    · cases e
  | all =>
    change biD .all as = some z at e
    unfold biD at e
    simp only at e
    split at e
    · rename_i ds
      obtain ⟨bs, eb, rfl⟩ := Option.map_eq_some_iff.mp e
      obtain ⟨v, rfl, p, vs, rfl, hp, r1⟩ := rbs1 ra
      have ev := bools_ok eb r1
      subst ev
      exact cr_all hc pins s σ H [.ref p] us Q I r ⟨p, bs, rfl, SqL.of (l2.lst hp), q _ rfl⟩
    · cases e
  | any =>
    change biD .any as = some z at e
    unfold biD at e
    simp only at e
    split at e
    · rename_i ds
      obtain ⟨bs, eb, rfl⟩ := Option.map_eq_some_iff.mp e
      obtain ⟨v, rfl, p, vs, rfl, hp, r1⟩ := rbs1 ra
      have ev := bools_ok eb r1
      subst ev
      exact cr_any hc pins s σ H [.ref p] us Q I r ⟨p, bs, rfl, SqL.of (l2.lst hp), q _ rfl⟩
    · cases e
  | min =>
    change biD .min as = some z at e
    unfold biD at e
    simp only at e
    split at e
    · rename_i ds
      obtain ⟨p, ps, ep, al, dp, ez⟩ := bestD_some e
      obtain ⟨v, rfl, r0⟩ := rbs1 ra
      have r0' := r0
      obtain ⟨a, vs, rfl, hp, r1⟩ := r0
      obtain ⟨u, eu, ru⟩ := vals1 r
      subst eu
      have ru' := ru
      cases ru
      obtain ⟨as, hr⟩ := RB.reads (p := .list (p :: ps)) hK I l1 l2 r0' ru' (by show (toPs ds).map PyData.list = _; rw [ep]; rfl)
      cases hr with
      | list ho hcl hd hra =>
        refine PySem.W.min_list_data (I.ok.hd hc) ⟨_, ho, hcl, _, hd⟩ hra al (by omega) fun i v' h' tk bs _ hrd hk => ?_
        obtain ⟨w, rw1, rw2⟩ := ofS_v (C := C) ez hrd θ F
        exact ⟨w, H, I.kept hk, rw1, del_s ez q w rw2⟩
    · rename_i ds
      obtain ⟨p, ps, ep, al, dp, ez⟩ := bestD_some e
      obtain ⟨v, rfl, r0⟩ := rbs1 ra
      have r0' := r0
      obtain ⟨a, vs, rfl, hp, r1⟩ := r0
      obtain ⟨u, eu, ru⟩ := vals1 r
      subst eu
      have ru' := ru
      cases ru
      obtain ⟨as, hr⟩ := RB.reads (p := .tuple (p :: ps)) hK I l1 l2 r0' ru' (by show (toPs ds).map PyData.tuple = _; rw [ep]; rfl)
      cases hr with
      | tuple ho hcl hd hra =>
        refine PySem.W.min_tuple_data (I.ok.hd hc) ⟨_, ho, hcl, _, hd⟩ hra al (by omega) fun i v' h' tk bs _ hrd hk => ?_
        obtain ⟨w, rw1, rw2⟩ := ofS_v (C := C) ez hrd θ F
        exact ⟨w, H, I.kept hk, rw1, del_s ez q w rw2⟩
    · rename_i i j
      cases e
      obtain ⟨v, w, rfl, r1, r2⟩ := rbs2 ra
      cases (show v = V.int i from r1)
      cases (show w = V.int j from r2)
      exact call_min2 hc pins s σ H [.int i, .int j] us Q I r ⟨i, j, rfl, q _ rfl⟩
    · rename_i i j
      cases e
      obtain ⟨v, w, rfl, r1, r2⟩ := rbs2 ra
      cases (show v = V.str i from r1)
      cases (show w = V.str j from r2)
      obtain ⟨u1, u2, rfl, ⟨t, rfl⟩, ⟨t', rfl⟩⟩ := vals2 r
      exact min_two_strs (I.ok.hd hc) fun h' tk t' k => ⟨.str _, H, I.kept k, ⟨t', rfl⟩, q _ rfl⟩
    · cases e
  | max =>
    change biD .max as = some z at e
    unfold biD at e
    simp only at e
    split at e
    · rename_i ds
      obtain ⟨p, ps, ep, al, dp, ez⟩ := bestD_some e
      obtain ⟨v, rfl, r0⟩ := rbs1 ra
      have r0' := r0
      obtain ⟨a, vs, rfl, hp, r1⟩ := r0
      obtain ⟨u, eu, ru⟩ := vals1 r
      subst eu
      have ru' := ru
      cases ru
      obtain ⟨as, hr⟩ := RB.reads (p := .list (p :: ps)) hK I l1 l2 r0' ru' (by show (toPs ds).map PyData.list = _; rw [ep]; rfl)
      cases hr with
      | list ho hcl hd hra =>
        refine PySem.W.max_list_data (I.ok.hd hc) ⟨_, ho, hcl, _, hd⟩ hra al (by omega) fun i v' h' tk bs _ hrd hk => ?_
        obtain ⟨w, rw1, rw2⟩ := ofS_v (C := C) ez hrd θ F
        exact ⟨w, H, I.kept hk, rw1, del_s ez q w rw2⟩
    · rename_i ds
      obtain ⟨p, ps, ep, al, dp, ez⟩ := bestD_some e
      obtain ⟨v, rfl, r0⟩ := rbs1 ra
      have r0' := r0
      obtain ⟨a, vs, rfl, hp, r1⟩ := r0
      obtain ⟨u, eu, ru⟩ := vals1 r
      subst eu
      have ru' := ru
      cases ru
      obtain ⟨as, hr⟩ := RB.reads (p := .tuple (p :: ps)) hK I l1 l2 r0' ru' (by show (toPs ds).map PyData.tuple = _; rw [ep]; rfl)
      cases hr with
      | tuple ho hcl hd hra =>
        refine PySem.W.max_tuple_data (I.ok.hd hc) ⟨_, ho, hcl, _, hd⟩ hra al (by omega) fun i v' h' tk bs _ hrd hk => ?_
        obtain ⟨w, rw1, rw2⟩ := ofS_v (C := C) ez hrd θ F
        exact ⟨w, H, I.kept hk, rw1, del_s ez q w rw2⟩
    · rename_i i j
      cases e
      obtain ⟨v, w, rfl, r1, r2⟩ := rbs2 ra
      cases (show v = V.int i from r1)
      cases (show w = V.int j from r2)
      exact call_max2 hc pins s σ H [.int i, .int j] us Q I r ⟨i, j, rfl, q _ rfl⟩
    · rename_i i j
      cases e
      obtain ⟨v, w, rfl, r1, r2⟩ := rbs2 ra
      cases (show v = V.str i from r1)
      cases (show w = V.str j from r2)
      obtain ⟨u1, u2, rfl, ⟨t, rfl⟩, ⟨t', rfl⟩⟩ := vals2 r
      exact max_two_strs (I.ok.hd hc) fun h' tk t' k => ⟨.str _, H, I.kept k, ⟨t', rfl⟩, q _ rfl⟩
    · cases e
  | int =>
    change biD .int as = some z at e
    unfold biD at e
    simp only at e
    split at e
    · rename_i i
      cases e
      obtain ⟨v, rfl, r1⟩ := rbs1 ra
      cases (show v = V.int i from r1)
      exact call_int1 pins s σ H [.int i] us Q I r (.inl ⟨i, rfl, q _ rfl⟩)
    · rename_i i
      cases e
      obtain ⟨v, rfl, r1⟩ := rbs1 ra
      cases (show v = V.bl i from r1)
      exact call_int1 pins s σ H [.bl i] us Q I r (.inr ⟨i, rfl, q _ rfl⟩)
    · cases e
  | abs =>
    change biD .abs as = some z at e
    unfold biD at e
    simp only at e
    split at e
    · rename_i i
      cases e
      obtain ⟨v, rfl, r1⟩ := rbs1 ra
      cases (show v = V.int i from r1)
      exact call_abs pins s σ H [.int i] us Q I r ⟨i, rfl, q _ rfl⟩
    · cases e
  | dict =>
    change biD .dict as = some z at e
    unfold biD at e
    simp only at e
    split at e
    · rename_i ds
      split at e
      · rename_i hf
        obtain ⟨kvs, ek, rfl⟩ := Option.map_eq_some_iff.mp e
        obtain ⟨v, rfl, p, vs, rfl, hp, r1⟩ := rbs1 ra
        obtain ⟨ps, prs, ev, hpr, hrk⟩ := putAll_ok ek r1 (ks := []) rfl
        subst ev
        refine call_dictP hc pins s σ H [.ref p] us Q I r ⟨p, ps, prs, rfl, SqL.of (l2.lst hp), paired_mono (fun _ _ h => by rw [hK]; exact l2.sqt (l1.sqt h)) hpr, fun l hl => q l _ hl hrk⟩
      · cases e
    · cases e
  | str => cases (show (none : Option D) = some z from e)
  | sum => cases (show (none : Option D) = some z from e)
end
end Ev
/-! EvP3 -/
namespace Ev
open PySem PySem.Spec PyProof.Rows L2
section
variable {C : Ctx} {X : Cx} (hK : X.K = C.K)
include hK
/-! ### subscripts -/
def rSub (C : Ctx) : R2 := fun x y H Q => ∃ θ F G a b, Le F G ∧ Le G H ∧ RB C θ F G a x ∧ R C θ F b y ∧ ∃ z, subD a b = some z ∧ ∀ v, R C θ F z v → Q v H
omit hK in
theorem atI_rs {θ : Toks} {F : Hp} {ds : List D} {vs : List V} {i : Int} {d : D} (r : Rs C θ F ds vs) (h : atI ds i = some d) : ∃ v, atI vs i = some v ∧ R C θ F d v := by
  unfold atI at h ⊢
  rw [r.length]
  cases e : ixN ds.length i with
  | none => rw [e] at h; cases h
  | some j =>
    rw [e] at h
    exact r.get h
theorem ix_sub (hu : X.A.units + 200 < cLine) : IxR X (rSub C) := by
  intro value slice pins s σ H x y v u Q I rx ry h hs
  obtain ⟨θ, F, G, a, b, l1, l2, ra, rb, z, e, q⟩ := h
  cases a with
  | lst ds =>
    cases b with
    | int i =>
      change atI ds i = some z at e
      obtain ⟨p, vs, rfl, hp, r1⟩ := ra
      cases (show y = V.int i from rb)
      obtain ⟨w, e1, r2⟩ := atI_rs r1 e
      exact ix_list value slice pins s σ H (.ref p) (.int i) v u Q I rx ry ⟨p, vs, i, w, rfl, rfl, SqL.of (l2.lst hp), e1, q w r2⟩ hs
    | _ => cases e
  | tup ds =>
    cases b with
    | int i =>
      change atI ds i = some z at e
      obtain ⟨p, vs, rfl, hp, r1⟩ := ra
      cases (show y = V.int i from rb)
      obtain ⟨w, e1, r2⟩ := atI_rs r1 e
      exact ix_tup value slice pins s σ H (.ref p) (.int i) v u Q I rx ry ⟨p, vs, i, w, rfl, rfl, by rw [hK]; exact l2.sqt (l1.sqt hp), e1, q w r2⟩ hs
    | _ => cases e
  | str x' =>
    cases b with
    | int i =>
      change (if fits x'.length = true then (atI x'.cps.toList i).map (fun c => D.str ⟨#[c]⟩) else none) = some z at e
      split at e
      · rename_i hf
        obtain ⟨c, e1, rfl⟩ := Option.map_eq_some_iff.mp e
        cases (show x = V.str x' from ra)
        cases (show y = V.int i from rb)
        exact ix_str value slice pins s σ H (.str x') (.int i) v u Q I rx ry ⟨x', i, c, rfl, rfl, fits_ok hf, e1, q _ rfl⟩ hs
      · cases e
    | _ => cases e
  | dct kvs =>
    have e : (if keysK kvs b = true then dLook kvs b else none) = some z := e
    split at e
    · rename_i hk
      obtain ⟨key, ek⟩ := keysK_key hk
      obtain ⟨p, ks, rfl, hp, r1⟩ := ra
      have hy : y = kV key := key_kV ek rb
      rcases RK.look ek r1 with ⟨e1, _⟩ | ⟨d, w, e1, e2, r2⟩
      · rw [e1] at e; cases e
      · rw [e1] at e
        cases e
        have g : DGet H p y (some w) := .inl ⟨ks, key, l2.rd hp, hy, e2.symm⟩
        cases rx
        unfold subscriptTail
        refine wpAny_bind ?_
        have hT := dict_typeIs I g
        rw [getitemInPython_of_ne hT.not_modules]
        refine wpAny_bind (wpAny_specialOf hT PySem.F.slot_dict_getitem.lookup ?_)
        have fin : wpAny (model X.prog X.w) X.A (subscripted slice false (.ref p) u) (fun r s₃ => wpAny (model X.prog X.w) X.A (letTemporaryGo value (.ref p) r >>= fun _ => pure r) (EP X pins σ Q) X.xe s₃) X.xe s := by
          rw [hs]
          exact wpAny_operating (wpAny_mono (d_getItem (by omega) I g ry fun w' s3 I3 rw' => (show EP X pins σ Q w' s3 from ⟨w, H, I3, rw', q w r2⟩)) (fun r s₃ h₃ => wpAny_bind (wpAny_letTemporaryGo (wpAny_pure h₃))) fun _ _ x => x)
        first
          | exact wpAny_pure (wpAny_bind fin)
          | exact wpAny_bind (wpAny_pure (wpAny_bind fin))
          | exact wpAny_bind fin
    · cases e
  | _ => cases e

/-! ### slices -/
def rCut (C : Ctx) : V → Option Int → Option Int → Hp → VK → Prop := fun x lo hi H Q => ∃ θ F G a, Le F G ∧ Le G H ∧ RB C θ F G a x ∧ ∃ z, cutD a lo hi = some z ∧ Del C θ F z H Q
omit hK in
theorem Rs.drop {θ : Toks} {F : Hp} : ∀ (n : Nat) {ds : List D} {vs : List V}, Rs C θ F ds vs → Rs C θ F (ds.drop n) (vs.drop n)
  | 0, _, _, r => r
  | n + 1, [], _, r => by cases (show _ = [] from r); exact rfl
  | n + 1, d :: ds, vs, r => by
    obtain ⟨v, r', rfl, q, z⟩ := r
    exact Rs.drop n z
omit hK in
theorem Rs.take {θ : Toks} {F : Hp} : ∀ (n : Nat) {ds : List D} {vs : List V}, Rs C θ F ds vs → Rs C θ F (ds.take n) (vs.take n)
  | 0, _, _, r => rfl
  | n + 1, [], _, r => by cases (show _ = [] from r); exact rfl
  | n + 1, d :: ds, vs, r => by
    obtain ⟨v, r', rfl, q, z⟩ := r
    exact ⟨v, r'.take n, rfl, q, Rs.take n z⟩
theorem sl_cut : SlR X (rCut C) := by
  intro pins s σ H x v vl vu lo hi sl Q I rx hs pl pu h
  obtain ⟨θ, F, G, a, l1, l2, ra, z, e, q⟩ := h
  cases a with
  | lst ds =>
    cases e
    obtain ⟨p, vs, rfl, hp, r1⟩ := ra
    refine sl_list pins s σ H (.ref p) v vl vu lo hi sl Q I rx hs pl pu ⟨p, vs, rfl, SqL.of (l2.lst hp), fun p' hp' => q p' _ hp' ?_⟩
    unfold cutV cutG
    rw [r1.length]
    exact (r1.drop _).take _
  | tup ds =>
    cases e
    have ra0 := ra
    obtain ⟨p, vs, rfl, hp, r1⟩ := ra
    have hp' : SqT X.K H p vs := by rw [hK]; exact l2.sqt (l1.sqt hp)
    refine sl_tupA pins s σ H (.ref p) v vl vu lo hi sl Q I rx hs pl pu ⟨p, vs, rfl, hp', fun hw => q.2 _ ?_, fun _ p' hp' => q.1 p' _ hp' ?_⟩
    · rw [r1.length] at hw
      have e : cutG ds lo hi = ds := by
        unfold cutG
        rw [hw.1, hw.2, List.drop_zero, Nat.sub_zero, List.take_length]
      rw [e]
      exact ra0
    · unfold cutV cutG
      rw [r1.length]
      exact (r1.drop _).take _
  | str w =>
    change (if fits w.length = true then some (D.str (cutS w lo hi)) else none) = some z at e
    split at e
    · rename_i hf
      cases e
      cases (show x = V.str w from ra)
      exact sl_str pins s σ H (.str w) v vl vu lo hi sl Q I rx hs pl pu ⟨w, rfl, fits_ok hf, q _ rfl⟩
    · cases e
  | _ => cases e

/-! ### join, index -/
omit hK in
theorem txts_ok {θ : Toks} {F : Hp} : ∀ {ds : List D} {ss : List Str} {vs : List V}, txts ds = some ss → Rs C θ F ds vs → vs = ss.map V.str
  | [], bs, vs, h, r => by
    cases h
    exact r
  | d :: ds, bs, vs, h, r => by
    obtain ⟨v, r', rfl, q, z⟩ := r
    cases d with
    | str b =>
      have h : (match txts ds with
        | some bs => some (b :: bs)
        | none => none) = some bs := h
      cases e : txts ds with
      | none => rw [e] at h; cases h
      | some cs =>
        rw [e] at h
        cases h
        rw [txts_ok e z, show v = V.str b from q]
        rfl
    | _ => cases h
def rJoin (C : Ctx) : V → List V → Hp → VK → Prop := fun x xs H Q => ∃ θ F G a b y, Le F G ∧ Le G H ∧ RB C θ F G a x ∧ xs = [y] ∧ RB C θ F G b y ∧ ∃ z, joinD a b = some z ∧ ∀ v, R C θ F z v → Q v H
omit hK in
theorem mt_joinD : MtR X "str.join" (rJoin C) := by
  intro pins s σ H x xs v us Q I rx rs h
  obtain ⟨θ, F, G, a, b, y, l1, l2, ra, rfl, rb, z, e, q⟩ := h
  unfold joinD at e
  split at e
  · rename_i zz ds
    split at e
    · rename_i ss es
      split at e
      · rename_i hf
        cases e
        cases (show x = V.str zz from ra)
        obtain ⟨p, vs, rfl, hp, r1⟩ := rb
        have := txts_ok es r1
        subst this
        exact mt_join pins s σ H _ _ v us Q I rx rs ⟨zz, p, ss, rfl, rfl, .inl (SqL.of (l2.lst hp)), of_decide_eq_true hf, q _ rfl⟩
      · cases e
    · cases e
  · cases e
def rIdx (C : Ctx) : V → List V → Hp → VK → Prop := fun x xs H Q => ∃ θ F G ds b y, Le F G ∧ Le G H ∧ RB C θ F G (.lst ds) x ∧ xs = [y] ∧ RB C θ F G b y ∧ ∃ z, methD "index" (.lst ds) [b] = some z ∧ ∀ v, R C θ F z v → Q v H
omit hK in
theorem pidx_ok {x : D} {p : PyData} (ep : toP x = some p) : ∀ {ds : List D} {ps : List PyData} {i j : Nat}, methD.pidx x ds i = some j → toPs ds = some ps →
    ∃ m z, j = i + m ∧ ps[m]? = some z ∧ PyData.eqv z p = true ∧ SeqAt.shaped p = true ∧ (∀ (m' : Nat) (z' : PyData), m' < m → ps[m']? = some z' → PyData.eqv z' p = false)
  | [], ps, i, j, h, _ => by cases h
  | d :: ds, ps, i, j, h, es => by
    have es' := es
    have es : (match toP d, toPs ds with
      | some p, some ps => some (p :: ps)
      | _, _ => none) = some ps := es
    cases e1 : toP d with
    | none => rw [e1] at es; cases es
    | some pd =>
      cases e2 : toPs ds with
      | none => rw [e1, e2] at es; cases es
      | some qs =>
        rw [e1, e2] at es
        cases es
        change (match pEq d x with
          | some true => some i
          | some false => methD.pidx x ds (i + 1)
          | none => none) = some j at h
        split at h
        · rename_i hq
          cases h
          obtain ⟨p1, p2, h1, h2, s1, s2, hz⟩ := pEq_some hq
          rw [e1] at h1; cases h1
          rw [ep] at h2; cases h2
          exact ⟨0, pd, rfl, rfl, hz.symm, s2, fun m' z' hm => absurd hm (Nat.not_lt_zero _)⟩
        · rename_i hq
          obtain ⟨p1, p2, h1, h2, s1, s2, hz⟩ := pEq_some hq
          rw [e1] at h1; cases h1
          rw [ep] at h2; cases h2
          obtain ⟨m, z, r1, r2, r3, r4, r5⟩ := pidx_ok ep h e2
          refine ⟨m + 1, z, by omega, by simpa using r2, r3, r4, fun m' z' hm hz' => ?_⟩
          cases m' with
          | zero => simp at hz'; subst hz'; exact hz.symm
          | succ k => exact r5 k z' (by omega) (by simpa using hz')
        · cases h
end
/-! ### isinstance -/
structure ClsOk (K : PySem.W.Frag) (Cad : Addr) : Prop where
  cl : Cls K Cad
  ha : PySem.W.findIn K (.ref Cad) "__class__" = some (some (.builtin "object.__class__"))
  hn : PySem.W.specialIn K (.builtin "object.__class__") "__get__" = some (some (.builtin "getset_descriptor.__get__"))
  htk : PySem.W.takesIn K (.builtin "object.__class__") = some true
  hm : PySem.W.mroIn K Cad (.type "object") = some true
def nTys : List String := ["NoneType", "bool", "int", "str", "list", "tuple", "dict"]
def sTys : List String := ["list", "tuple", "int", "bool", "str", "dict"]
structure ClsEnv (C : Ctx) (cs : List Str) : Prop where
  ok : ∀ c ∈ cs, ClsOk C.K (C.cls c)
  ty : ∀ c ∈ cs, ∀ n ∈ nTys, PySem.W.kitOne C.K (.type n) (.ref (C.cls c)) = some false
  bt : ∀ c ∈ cs, ∀ n ∈ sTys, PySem.W.kitOne C.K (.ref (C.cls c)) (.type n) = some false
  ne : ∀ c ∈ cs, ∀ n ∈ sTys, (Str.ofString n == c) = false
  cc : ∀ c ∈ cs, ∀ c' ∈ cs, PySem.W.kitOne C.K (.ref (C.cls c)) (.ref (C.cls c')) = some (c' == c)
/-- a class name's value -/
inductive TyNm (C : Ctx) (cs : List Str) : Str → Value → Prop where
  | b (n : String) (h : n ∈ sTys) : TyNm C cs (Str.ofString n) (.type n)
  | c (c : Str) (h : c ∈ cs) (hn : ∀ n ∈ sTys, (c == Str.ofString n) = false) : TyNm C cs c (.ref (C.cls c))
/-- the type of data, looked at -/
def tyOfD (C : Ctx) : D → Value
  | .non => .type "NoneType"
  | .bl _ => .type "bool"
  | .int _ => .type "int"
  | .str _ => .type "str"
  | .lst _ => .type "list"
  | .tup _ => .type "tuple"
  | .dct _ => .type "dict"
  | .obj c _ => .ref (C.cls c)
  | .tok _ => .none
theorem tyX_of {C : Ctx} {cs : List Str} (ce : ClsEnv C cs) {θ : Toks} {F G H : Hp} (l1 : Le F G) (l2 : Le G H) {d : D} {v : V} (r : RB C θ F G d v) {t : Str} {b : Bool} (e : isiD cs d t = some b) : TyX C.K H v (tyOfD C d) := by
  cases d with
  | non => cases (show v = V.non from r); exact .base .non
  | bl x => cases (show v = V.bl x from r); exact .base (.bl x)
  | int x => cases (show v = V.int x from r); exact .base (.int x)
  | str x => cases (show v = V.str x from r); exact .base (.str x)
  | lst ds =>
    obtain ⟨p, vs, rfl, hp, r1⟩ := r
    exact .base (.lst (l2.lst hp))
  | tup ds =>
    obtain ⟨p, vs, rfl, hp, r1⟩ := r
    rcases l2.sqt (l1.sqt hp) with h | ⟨o, its, n, h1, h2, _⟩
    · rcases h with h | ⟨o, h⟩
      · exact .base (.tup h)
      · exact .fTuple h
    · exact .kTuple h1 h2
  | dct kvs =>
    obtain ⟨p, ks, rfl, hp, r1⟩ := r
    rcases l2.rd hp with h | ⟨o, h⟩
    · exact .base (.dK h)
    · exact .fDict h
  | obj c fs =>
    obtain ⟨p, dx, vs, rfl, hp, r1⟩ := r
    have e : (if cs.contains c = true then some (t == c) else none) = some b := e
    split at e
    · rename_i hc
      have hc : c ∈ cs := by simpa using hc
      have k := ce.ok c hc
      exact .base (.ins (l2.ins hp) k.cl k.ha k.hn k.htk k.hm)
    · cases e
  | tok n => cases e
theorem isi_one {C : Ctx} {cs : List Str} (ce : ClsEnv C cs) {d : D} {t : Str} {w : Value} {b : Bool} (k : TyNm C cs t w) (e : isiD cs d t = some b) : PySem.W.kitOne C.K (tyOfD C d) w = some b := by
  cases k with
  | b n h =>
    cases d with
    | obj c fs =>
      have e : (if cs.contains c = true then some (Str.ofString n == c) else none) = some b := e
      split at e
      · rename_i hc
        have hc : c ∈ cs := by simpa using hc
        rw [ce.ne c hc n h] at e
        cases e
        exact ce.bt c hc n h
      · cases e
    | tok _ => cases e
    | _ =>
      simp only [sTys, List.mem_cons, List.not_mem_nil, or_false] at h
      rcases h with rfl | rfl | rfl | rfl | rfl | rfl <;> (cases e; exact kit_ty (by decide +kernel))
  | c c h hn =>
    have nb : ∀ n ∈ sTys, (t == Str.ofString n) = false := hn
    have z1 := nb "bool" (by decide)
    have z2 := nb "int" (by decide)
    have z3 := nb "str" (by decide)
    have z4 := nb "list" (by decide)
    have z5 := nb "tuple" (by decide)
    have z6 := nb "dict" (by decide)
    cases d with
    | non => cases e; exact ce.ty _ h _ (by decide)
    | bl _ =>
      have e : some (t == Str.ofString "bool" || t == Str.ofString "int") = some b := e
      rw [z1, z2] at e
      cases e
      exact ce.ty _ h _ (by decide)
    | int _ =>
      have e : some (t == Str.ofString "int") = some b := e
      rw [z2] at e
      cases e
      exact ce.ty _ h _ (by decide)
    | str _ =>
      have e : some (t == Str.ofString "str") = some b := e
      rw [z3] at e
      cases e
      exact ce.ty _ h _ (by decide)
    | lst _ =>
      have e : some (t == Str.ofString "list") = some b := e
      rw [z4] at e
      cases e
      exact ce.ty _ h _ (by decide)
    | tup _ =>
      have e : some (t == Str.ofString "tuple") = some b := e
      rw [z5] at e
      cases e
      exact ce.ty _ h _ (by decide)
    | dct _ =>
      have e : some (t == Str.ofString "dict") = some b := e
      rw [z6] at e
      cases e
      exact ce.ty _ h _ (by decide)
    | obj c' fs =>
      have e : (if cs.contains c' = true then some (t == c') else none) = some b := e
      split at e
      · rename_i hc
        cases e
        exact ce.cc c' (by simpa using hc) t h
      · cases e
    | tok _ => cases e
theorem isi_any {C : Ctx} {cs : List Str} (ce : ClsEnv C cs) {d : D} : ∀ {ts : List Str} {ws : List Value} {b : Bool}, Paired (TyNm C cs) ts ws → isiAny cs d ts = some b → PySem.W.kitAny C.K (tyOfD C d) ws = some b
  | _, _, _, .nil, e => by cases e; exact kitAny_nil
  | _, _, b, .cons (a := t) (l₁ := ts) k r, e => by
    change (match isiD cs d t with
      | some true => some true
      | some false => isiAny cs d ts
      | none => none) = some b at e
    split at e
    · rename_i e1
      cases e
      exact kitAny_cons (isi_one ce k e1) (fun h => by cases h) fun _ => rfl
    · rename_i e1
      exact kitAny_cons (isi_one ce k e1) (fun _ => isi_any ce r e) fun h => by cases h
    · cases e
end Ev
/-! EvX1 -/
namespace Ev
open PySem PySem.Spec PyProof.Rows L2

/-! ### calls, by values -/
def CX0 : CXT := fun _ _ _ _ _ _ => False
def rCall (C : Ctx) (cf : CallF) (key : Str × Option Str) : List V → Hp → VK → Prop := fun vs H Q => ∃ θ F ow st as t st1, Hok θ F H ow st ∧ Rs C θ F as vs ∧ cf key as st = some (t, st1) ∧
  ∀ v θ' F' H' ow', Stp θ F H ow θ' F' H' ow' → Hok θ' F' H' ow' st1 → ResT C θ' F' H' ow' H t v → Q v H'
def spC (C : Ctx) (cf : CallF) (np : Nat) (key : Str × Option Str) : Sp := fun vs H Q _ => vs.length = np ∧ rCall C cf key vs H Q
/-- what __init__ promises -/
def spI (C : Ctx) (cf : CallF) (np : Nat) (c : Str) : Sp := fun vs H Q _ => vs.length = np + 1 ∧ ∃ x dx H0 rest θ F ow st as t st1, vs = .ref x :: rest ∧ H0 x = none ∧ H0 dx = none ∧ dx ≠ x ∧ H = upd (upd H0 dx (.own x)) x (.ins (C.cls c) dx []) ∧
  Hok θ F H0 ow st ∧ Rs C θ F as rest ∧ cf (c, some "__init__") as st = some (t, st1) ∧
  ∀ θ' F' H' ow', Stp θ F H0 ow θ' F' H' ow' → Hok θ' F' H' ow' st1 → ResT C θ' F' H' ow' H0 t (.ref x) → Q .non H'
/-- binding of a shape: n positional values, the keywords ks -/
def BindSh (K : PySem.W.Frag) (fd : FuncData) (ps : List Str) (sh : List (Nat × List Str)) : Prop := ∀ n ks o, ordOf ps sh n ks = some o → ∀ (s : Shared) (us ws zs : List Value), K.In s.heap → us.length = n → ws.length = ks.length → pickA (us ++ ws) o = some zs → BindsTo s fd ⟨us, ks.zip ws⟩ (ps.zip zs)
structure FAt (C : Ctx) (cf : CallF) (X : Cx) (x : Str) (ps : List Str) (sh : List (Nat × List Str)) (f : Addr) : Prop where
  mg : X.mg x = some (.ref f)
  kp : PySem.W.keepIn X.K (.ref f) = true
  ex : ∃ k fd, FnOk X.prog X.w X.K X.mg X.base CX0 k f fd ps (spC C cf ps.length (x, none)) ∧ Room k X.A ∧ BindSh X.K fd ps sh
structure MAt (C : Ctx) (cf : CallF) (X : Cx) (c : Str) (ps : List Str) : Prop where
  mg : X.mg c = some (.ref (C.cls c))
  ex : ∃ k f fd sl, FnOk X.prog X.w X.K X.mg X.base CX0 k f fd (sl :: ps) (spI C cf ps.length c) ∧ Room (k + 1) X.A ∧ Mk X.K (C.cls c) f ∧ Binds X.K fd (sl :: ps) []
def bltN : List Str := ["range", "enumerate", "zip", "isinstance", "len", "sorted", "list", "tuple", "all", "any", "min", "max", "int", "abs", "dict", "bool", "str"]
structure XOk (g : Gi) (C : Ctx) (cf : CallF) (N : List Str) (X : Cx) : Prop where
  hK : X.K = C.K
  hN : X.N = N
  nd : N.Nodup
  calm : X.calm = true
  un : X.A.units + 200 < cLine
  blt : ∀ x ∈ bltN, X.mg x = none
  cst : ∀ x d, g.cst.lookup x = some d → ∃ u v, X.mg x = some u ∧ RelV v u ∧ ∀ θ F, R C θ F d v
  cle : ClsEnv C (g.cls.map (·.1))
  fns : ∀ x ps sh, g.fns.lookup x = some (ps, sh) → ∃ f, FAt C cf X x ps sh f
  cls : ∀ c ps sh, g.cls.lookup c = some (ps, sh) → MAt C cf X c ps
  clm : ∀ c ∈ g.cls.map (·.1), X.mg c = some (.ref (C.cls c))
  fld : ∀ f cs, g.fld.lookup f = some cs → ∀ c ∈ cs, Cls C.K (C.cls c) ∧ NoAttr C.K (C.cls c) f
theorem XOk.blk {g : Gi} {C : Ctx} {cf : CallF} {N : List Str} {X : Cx} (h : XOk g C cf N X) (s : Shared) (H : Hp) (scope : Scope) (cenv : PySem.Env) (fp : List Addr) : XOk g C cf N (X.blk s H scope cenv fp) :=
  ⟨h.hK, h.hN, h.nd, h.calm, h.un, h.blt, h.cst, h.cle, fun x ps sh e => let ⟨f, q⟩ := h.fns x ps sh e; ⟨f, q.mg, q.kp, q.ex⟩, fun c ps sh e => let q := h.cls c ps sh e; ⟨q.mg, q.ex⟩, h.clm, h.fld⟩

/-! ### what an expression's text does -/
section
variable (C : Ctx) (cf : CallF) (X : Cx)
def EOk (e : Expr) (i : Ir) : Prop := ∀ θ F H ow st σ env d st1 Q, Hok θ F H ow st → EnvOk C θ F H ow σ env → evI cf env i st = some (d, st1) →
  (∀ v θ' F' H' ow', Stp θ F H ow θ' F' H' ow' → Hok θ' F' H' ow' st1 → R C θ' F' d v → Q v H') → SemE X e σ H Q
def BOk (e : Expr) (i : Ir) : Prop := ∀ θ F H ow st σ env d st1 Q, Hok θ F H ow st → EnvOk C θ F H ow σ env → brw env i st (evI cf env i st) = some (d, st1) →
  (∀ v θ' F' H' ow', Stp θ F H ow θ' F' H' ow' → Hok θ' F' H' ow' st1 → RB C θ' F' (Hn ow' H') d v → Q v H') → SemE X e σ H Q
def TOk (e : Expr) (i : Ir) : Prop := ∀ θ F H ow st σ env t st1 Q, Hok θ F H ow st → EnvOk C θ F H ow σ env → evTop cf env i st = some (t, st1) →
  (∀ v θ' F' H' ow', Stp θ F H ow θ' F' H' ow' → Hok θ' F' H' ow' st1 → ResT C θ' F' H' ow' H t v → Q v H') → SemE X e σ H Q
def COk (e : Expr) (i : Ir) : Prop := ∀ θ F H ow st σ env b st1 Q, Hok θ F H ow st → EnvOk C θ F H ow σ env → evI cf env i st = some (.bl b, st1) →
  (∀ θ' F' H' ow', Stp θ F H ow θ' F' H' ow' → Hok θ' F' H' ow' st1 → Q b H') → SemC X e σ H Q
def AOk (es : List Expr) (is : List Ir) : Prop := ∀ θ F H ow st σ env ds st1 Q, Hok θ F H ow st → EnvOk C θ F H ow σ env → evL cf env is st = some (ds, st1) →
  (∀ vs θ' F' H' ow', Stp θ F H ow θ' F' H' ow' → Hok θ' F' H' ow' st1 → Rs C θ' F' ds vs → Q vs H') → SemA X es σ H Q
def ABOk (es : List Expr) (is : List Ir) : Prop := ∀ θ F H ow st σ env ds st1 Q, Hok θ F H ow st → EnvOk C θ F H ow σ env → evLB cf env is st = some (ds, st1) →
  (∀ vs θ' F' H' ow', Stp θ F H ow θ' F' H' ow' → Hok θ' F' H' ow' st1 → RBs C θ' F' (Hn ow' H') ds vs → Q vs H') → SemA X es σ H Q
def ASOk (es : List Expr) (is : List (Bool × Ir)) : Prop := ∀ θ F H ow st σ env ds st1 Q, Hok θ F H ow st → EnvOk C θ F H ow σ env → evS cf env is st = some (ds, st1) →
  (∀ vs θ' F' H' ow', Stp θ F H ow θ' F' H' ow' → Hok θ' F' H' ow' st1 → Rs C θ' F' ds vs → Q vs H') → SemA X es σ H Q
end
/-! ### shapes -/
def nst (e : Expr) : Bool := match e with
  | .Starred .. => false
  | .Slice .. => false
  | .Set .. => false
  | _ => true
theorem star_cons {e : Expr} (h : nst e = true) (es : List Expr) (env : PySem.Env) : starEach (e :: es) env = (false, eval e env) :: starEach es env := by
  cases e <;> first | rfl | cases h
theorem star_any : ∀ {es : List Expr}, (∀ e ∈ es, nst e = true) → ∀ (pos : Pos) (env : PySem.Env), (backTo pos (starEach es env)).any (·.1) = false
  | [], _, _, _ => rfl
  | e :: es, h, pos, env => by
    rw [star_cons (h e List.mem_cons_self)]
    show (false || (backTo pos (starEach es env)).any (·.1)) = false
    rw [star_any (fun x hx => h x (List.mem_cons_of_mem _ hx))]
    rfl
theorem plain_ix {b : Expr} (h : nst b = true) : PlainIx b := by
  intro o i
  cases b <;> first | rfl | cases h
theorem no_behind {op : CmpOp} {b : Expr} (h : nst b = true) : behindInMarks op b = false := by
  cases b <;> first | rfl | cases h
theorem fold_it {e : Expr} (h : nst e = true) (env : PySem.Env) : ∀ x, foldedSetIterable e env x = pure x := by
  intro x
  cases e <;> first | rfl | cases h
def nsup (e : Expr) : Bool := match e with
  | .Call (.Name id _) [] [] _ => id != "super"
  | _ => true
theorem att_base {o : Expr} (h : nsup o = true) (f : Str) (env : PySem.Env) : attributeBase o f env (eval o env) = eval o env := by
  unfold attributeBase
  split
  · rename_i id p pos
    have h : (id != "super") = true := h
    rw [h]
    simp
  · rfl
theorem comp_nst {g : Gi} {N : List Str} {n : Nat} {sc : Scope} {e : Expr} {i : Ir} (h : compE g N n sc e = some i) : nst e = true := by
  cases n with
  | zero => cases h
  | succ n => cases e <;> first | rfl | cases h
theorem comp_nsup {g : Gi} {N : List Str} {n : Nat} {sc : Scope} {e : Expr} {i : Ir} (h : compE g N n sc e = some i) : nsup e = true := by
  unfold nsup
  split
  · rename_i id p pos
    cases n with
    | zero => cases h
    | succ n =>
      cases hs : (id == ("super" : Str)) with
      | false => simp [bne, hs]
      | true =>
        exfalso
        have hk : okN id = false := by unfold okN; rw [hs]; simp
        unfold compE at h
        simp only [specE] at h
        unfold compB at h
        simp [hk] at h
  · rfl
end Ev
/-! EvX2 -/
namespace Ev
open PySem PySem.Spec PyProof.Rows L2

/-! ### freezing -/
section
variable {C : Ctx} {θ : Toks} {F H H0 : Hp} {ow : OwF} {st : Sst}
theorem froz {θ0 : Toks} {F0 : Hp} {ow0 : OwF} (h : Hok θ F H ow st) (s : Stp θ0 F0 H0 ow0 θ F H ow) {a : Addr} {o : HO} (h0 : H0 a = none) (hF : F a = none) (ho : ow a = none) (hH : H a = some o) : Hok θ (upd F a o) H ow st ∧ Stp θ0 F0 H0 ow0 θ (upd F a o) H ow ∧ Le F (upd F a o) := by
  have nF : ∀ b u, F b = some u → b ≠ a := fun b u e z => by subst z; rw [hF] at e; cases e
  have n0 : ∀ b u, H0 b = some u → b ≠ a := fun b u e z => by subst z; rw [h0] at e; cases e
  refine ⟨⟨fun b u e => ?_, fun b u e => ?_, h.liv, h.str⟩, ⟨s.th, fun b u e => by rw [upd_ne (nF b u (s.fx b u e))]; exact s.fx b u e, s.ex, s.oo, fun b u e n z0 z => by rw [upd_ne (n0 b u e)]; exact s.fn b u e n z0 z⟩, Le.of_ext fun b u e => by rw [upd_ne (nF b u e)]; exact e⟩
  · by_cases z : b = a
    · subst z
      rw [upd_same] at e
      cases e
      exact .inl hH
    · rw [upd_ne z] at e
      exact h.le b u e
  · by_cases z : b = a
    · subst z
      exact ho
    · rw [upd_ne z] at e
      exact h.sep b u e
theorem res_fz {θ0 : Toks} {F0 : Hp} {ow0 : OwF} (h : Hok θ F H ow st) (s : Stp θ0 F0 H0 ow0 θ F H ow) {t : T} {v : V} (r : ResT C θ F H ow H0 t v) : ∃ F', Stp θ0 F0 H0 ow0 θ F' H ow ∧ Hok θ F' H ow st ∧ R C θ F' t.er v := by
  cases t with
  | fz d => exact ⟨F, s, h, r⟩
  | ol ds =>
    obtain ⟨a, vs, rfl, h0, hF, ho, hH, r⟩ := r
    obtain ⟨k, s, l⟩ := froz h s h0 hF ho hH
    exact ⟨_, s, k, a, vs, rfl, upd_same, Rs.mono l (Tle.refl _) _ _ r⟩
  | od kvs =>
    obtain ⟨a, vs, rfl, h0, hF, ho, hH, r⟩ := r
    obtain ⟨k, s, l⟩ := froz h s h0 hF ho hH
    exact ⟨_, s, k, a, vs, rfl, .inl upd_same, RK.mono l (Tle.refl _) _ _ r⟩
  | oo c fs =>
    obtain ⟨a, dx, vs, rfl, h0, hF, ho, hH, r⟩ := r
    obtain ⟨k, s, l⟩ := froz h s h0 hF ho hH
    exact ⟨_, s, k, a, dx, vs, rfl, upd_same, RF.mono l (Tle.refl _) _ _ r⟩
/-- a live thing, neither frozen nor the stream's nor there at the start, is written -/
theorem chg {θ0 : Toks} {F0 : Hp} {ow0 : OwF} (h : Hok θ F H ow st) (s : Stp θ0 F0 H0 ow0 θ F H ow) {a : Addr} {o : HO} (h0 : H0 a = none) (hF : F a = none) (ho : ow a ≠ some .strm) (hn : NT o := by (intro _ z; cases z)) : Hok θ F (upd H a o) ow st ∧ Stp θ0 F0 H0 ow0 θ F (upd H a o) ow := by
  have nF : ∀ b u, F b = some u → b ≠ a := fun b u e z => by subst z; rw [hF] at e; cases e
  have n0 : ∀ b u, H0 b = some u → b ≠ a := fun b u e z => by subst z; rw [h0] at e; cases e
  refine ⟨⟨fun b u e => by rw [upd_ne (nF b u e)]; exact h.le b u e, h.sep, fun b k e => ?_, ?_⟩, ⟨s.th, s.fx, fun b u e z => by rw [upd_ne (n0 b u e)]; exact s.ex b u e z, s.oo, s.fn⟩⟩
  · by_cases z : b = a
    · subst z
      exact ⟨o, upd_same, hn⟩
    · rw [upd_ne z]
      exact h.liv b k e
  · have hs := h.str
    cases st with
    | none => exact hs
    | some st =>
      obtain ⟨p, l, e1, e2, e3, e4, e5, e6⟩ := hs
      exact ⟨p, l, e1, e2, by rw [upd_ne (fun z => ho (by rw [← z]; exact e5))]; exact e3, by rw [upd_ne (fun z => ho (by rw [← z]; exact e6))]; exact e4, e5, e6⟩
/-- what a fresh list, dict is to its only holder -/
def ownL (d : D) : T := match d with
  | .lst ds => .ol ds
  | .dct kvs => .od kvs
  | d => .fz d
theorem ownL_er (d : D) : (ownL d).er = d := by cases d <;> rfl
theorem del_res {F0 H0 : Hp} {θ0 : Toks} {ow0 : OwF} {z : D} {Q : VK} (ok : Hok θ F H ow st) (s0 : Stp θ0 F0 H0 ow0 θ F H ow)
    (k : ∀ v H' F', Stp θ F H ow θ F' H' ow → Hok θ F' H' ow st → ResT C θ F' H' ow H0 (ownL z) v → Q v H') : Del C θ F z H Q := by
  have old : ∀ p, H p = none → H0 p = none := fun p hp => by
    cases e : H0 p with
    | none => rfl
    | some o =>
      obtain ⟨o', e'⟩ := s0.live ok e
      rw [hp] at e'
      cases e'
  have here : ∀ v, R C θ F z v → ResT C θ F H ow H0 (.fz z) v := fun v r => r
  cases z with
  | lst ds =>
    intro p vs hp r
    obtain ⟨o1, s1⟩ := ok.laid (o := .lst vs) hp
    exact k _ _ _ s1 o1 ⟨p, vs, rfl, old p hp, ok.noF hp, ok.noO hp, upd_same, r⟩
  | tup ds =>
    refine ⟨fun p vs hp r => ?_, fun v r => k v H F Stp.refl ok r⟩
    obtain ⟨o1, s1⟩ := ok.frozen (o := .tup vs) hp
    exact k _ _ _ s1 o1 ⟨p, vs, rfl, SqT.of upd_same, Rs.mono s1.leF s1.th _ _ r⟩
  | dct kvs =>
    intro p ks hp r
    obtain ⟨o1, s1⟩ := ok.laid (o := .dK ks) hp
    exact k _ _ _ s1 o1 ⟨p, ks, rfl, old p hp, ok.noF hp, ok.noO hp, upd_same, r⟩
  | _ => exact fun v r => k v H F Stp.refl ok r
end
def freshB (e : Ir) : Bool := match e with
  | .lst _ | .lc .. | .dct _ | .dc .. | .bi .sorted _ | .bi .list _ | .bi .dict _ | .bin .Add _ _ | .cut .. => true
  | _ => false
theorem ownT_fresh {e : Ir} (h : freshB e = true) (d : D) : ownT e d = ownL d := by
  unfold freshB at h
  split at h <;> first | rfl | cases h
theorem ownT_not {e : Ir} (h : freshB e = false) (d : D) : ownT e d = .fz d := by
  unfold ownT
  split <;> first | rfl | cases h
theorem ownT_er (e : Ir) (d : D) : (ownT e d).er = d := by
  cases h : freshB e with
  | true => rw [ownT_fresh h]; exact ownL_er d
  | false => rw [ownT_not h]; rfl
def callB (e : Ir) : Bool := match e with
  | .call .. => true
  | _ => false
theorem evTop_not {cf : CallF} {env : Env} {i : Ir} {st : Sst} (h : callB i = false) : evTop cf env i st = match evI cf env i st with
    | some (d, st1) => some (ownT i d, st1)
    | none => none := by
  cases i <;> first | rfl | cases h
theorem evTop_of {cf : CallF} {env : Env} {i : Ir} {st st1 : Sst} {d : D} (h : evI cf env i st = some (d, st1)) : ∃ t, evTop cf env i st = some (t, st1) ∧ t.er = d := by
  cases hc : callB i with
  | false => exact ⟨ownT i d, by rw [evTop_not hc, h], ownT_er i d⟩
  | true =>
    cases i with
    | call g as ord =>
      unfold evI at h
      unfold evTop
      cases e1 : evL cf env as st with
      | none => rw [e1] at h; cases h
      | some p =>
        obtain ⟨ds, st2⟩ := p
        rw [e1] at h
        simp only at h ⊢
        cases e2 : pickA ds ord with
        | none => rw [e2] at h; cases h
        | some ps =>
          rw [e2] at h
          simp only at h ⊢
          cases e3 : cf (g, none) ps st2 with
          | none => rw [e3] at h; cases h
          | some q =>
            obtain ⟨t, st3⟩ := q
            rw [e3] at h
            cases h
            refine ⟨t, ?_, rfl⟩
            show (match evL cf env as st with
              | none => none
              | some (ds, st1) => match pickA ds ord with
                | none => none
                | some ps => cf (g, none) ps st1) = _
            rw [e1]
            show (match pickA ds ord with
                | none => none
                | some ps => cf (g, none) ps st2) = _
            rw [e2]
            exact e3
    | _ => cases hc
section
variable {C : Ctx} {cf : CallF} {X : Cx}
theorem TOk.e {e : Expr} {i : Ir} (h : TOk C cf X e i) : EOk C cf X e i := by
  intro θ F H ow st σ env d st1 Q ok en ev k
  obtain ⟨t, et, rfl⟩ := evTop_of ev
  refine h θ F H ow st σ env t st1 Q ok en et fun v θ' F' H' ow' s o r => ?_
  obtain ⟨F2, s2, o2, r2⟩ := res_fz o s r
  exact k v θ' F2 H' ow' s2 o2 r2
theorem EOk.t {e : Expr} {i : Ir} (h : EOk C cf X e i) (h1 : callB i = false) (h2 : freshB i = false) : TOk C cf X e i := by
  intro θ F H ow st σ env t st1 Q ok en ev k
  rw [evTop_not h1] at ev
  cases e1 : evI cf env i st with
  | none => rw [e1] at ev; cases ev
  | some p =>
    obtain ⟨d, st2⟩ := p
    rw [e1] at ev
    simp only [Option.some.injEq, Prod.mk.injEq] at ev
    obtain ⟨rfl, rfl⟩ := ev
    rw [ownT_not h2] at k
    exact h θ F H ow st σ env d st2 Q ok en e1 fun v θ' F' H' ow' s o r => k v θ' F' H' ow' s o r
def varB (e : Ir) : Bool := match e with
  | .v _ => true
  | _ => false
theorem brw_not {env : Env} {i : Ir} (h : varB i = false) (st : Sst) (r : Option (D × Sst)) : brw env i st r = r := by
  cases i <;> first | rfl | cases h
theorem EOk.b {e : Expr} {i : Ir} (h : EOk C cf X e i) (h1 : varB i = false) : BOk C cf X e i := by
  intro θ F H ow st σ env d st1 Q ok en ev k
  rw [brw_not h1] at ev
  exact h θ F H ow st σ env d st1 Q ok en ev fun v θ' F' H' ow' s o r => k v θ' F' H' ow' s o (RB.of o.leN r)
/-- a fresh result, by what is delivered -/
theorem TOk.of_del {e : Expr} {i : Ir} (h1 : callB i = false)
    (h : ∀ θ F H ow st σ env d st1 Q, Hok θ F H ow st → EnvOk C θ F H ow σ env → evI cf env i st = some (d, st1) →
      (∀ θ' F' H' ow', Stp θ F H ow θ' F' H' ow' → Hok θ' F' H' ow' st1 → Del C θ' F' d H' Q) → SemE X e σ H Q) (h2 : freshB i = true) : TOk C cf X e i := by
  intro θ F H ow st σ env t st1 Q ok en ev k
  rw [evTop_not h1] at ev
  cases e1 : evI cf env i st with
  | none => rw [e1] at ev; cases ev
  | some p =>
    obtain ⟨d, st2⟩ := p
    rw [e1] at ev
    simp only [Option.some.injEq, Prod.mk.injEq] at ev
    obtain ⟨rfl, rfl⟩ := ev
    rw [ownT_fresh h2] at k
    refine h θ F H ow st σ env d st2 Q ok en e1 fun θ' F' H' ow' s o => ?_
    exact del_res o s fun v H2 F2 s2 o2 r2 => k v θ' F2 H2 ow' (s.trans o s2) o2 r2
theorem EOk.of_del {e : Expr} {i : Ir}
    (h : ∀ θ F H ow st σ env d st1 Q, Hok θ F H ow st → EnvOk C θ F H ow σ env → evI cf env i st = some (d, st1) →
      (∀ θ' F' H' ow', Stp θ F H ow θ' F' H' ow' → Hok θ' F' H' ow' st1 → Del C θ' F' d H' Q) → SemE X e σ H Q) : EOk C cf X e i := by
  intro θ F H ow st σ env d st1 Q ok en ev k
  refine h θ F H ow st σ env d st1 Q ok en ev fun θ' F' H' ow' s o => ?_
  exact del_fz o fun v H2 F2 s2 o2 r2 => k v θ' F2 H2 ow' (s.trans o s2) o2 r2
/-- a test of a value -/
theorem EOk.c {e : Expr} {i : Ir} (h : EOk C cf X e i) (he : ∀ whole, isTrue e X.env whole = (do let v ← whole; standAt e.pos; holding [v] (truthy v))) : COk C cf X e i := by
  intro θ F H ow st σ env b st1 Q ok en ev k
  refine sc' (pt_val pe_sem he) ?_
  exact h θ F H ow st σ env (.bl b) st1 _ ok en ev fun v θ' F' H' ow' s o r => ⟨b, r, k θ' F' H' ow' s o⟩

/-! ### names, constants -/
theorem e_var {N : List Str} {x : Str} {i : Nat} {pos : Pos} (hN : X.N = N) (hi : ix N x = some i) (hv : visB X.env.scope x = true) (ho : okN x = true) : EOk C cf X (.Name x pos) (.v i) ∧ BOk C cf X (.Name x pos) (.v i) := by
  have h1 : X.N[i]? = some x := by
    rw [hN]
    unfold ix at hi
    rw [List.findIdx?_eq_some_iff_getElem] at hi
    obtain ⟨hl, h1, _⟩ := hi
    rw [List.getElem?_eq_getElem hl]
    exact congrArg some (by simpa using h1)
  have h2 : Vis X.env.scope x := by
    unfold visB at hv
    split at hv
    · left; assumption
    · right; left; assumption
    · right; right; assumption
    · cases hv
  unfold okN at ho
  simp only [Bool.and_eq_true, Bool.not_eq_true'] at ho
  have P : PE X (.Name x pos) (tVar i) := pe_var h1 h2 ho.1.1.1 ho.1.1.2
  constructor
  · intro θ F H ow st σ env d st1 Q ok en ev k
    unfold evI at ev
    cases e1 : useV env i with
    | none => rw [e1] at ev; cases ev
    | some d' =>
      rw [e1] at ev
      cases ev
      obtain ⟨v, e2, r⟩ := en.use e1
      exact se P ⟨v, e2, k v θ F H ow Stp.refl ok r⟩
  · intro θ F H ow st σ env d st1 Q ok en ev k
    change (match lookV env i with
      | some d => some (d, st)
      | none => none) = some (d, st1) at ev
    cases e1 : lookV env i with
    | none => rw [e1] at ev; cases ev
    | some d' =>
      rw [e1] at ev
      cases ev
      obtain ⟨v, e2, r⟩ := en.look ok e1
      exact se P ⟨v, e2, k v θ F H ow Stp.refl ok r⟩
theorem e_const {e : Expr} {v : V} {d : D} (P : PE X e (tC v)) (r : ∀ θ F, R C θ F d v) : EOk C cf X e (.k d) := by
  intro θ F H ow st σ env d' st1 Q ok en ev k
  cases (show some (d, st) = some (d', st1) from ev)
  exact se P (k v θ F H ow Stp.refl ok (r θ F))

/-! ### two operands -/
theorem two_b {a b : Expr} {ia ib : Ir} (ha : BOk C cf X a ia) (hb : BOk C cf X b ib) {θ : Toks} {F H : Hp} {ow : OwF} {st st1 st2 : Sst} {σ : L2.St} {env : Env} {x y : D} {Q : V → V → Hp → Prop} (ok : Hok θ F H ow st) (en : EnvOk C θ F H ow σ env)
    (e1 : brw env ia st (evI cf env ia st) = some (x, st1)) (e2 : brw env ib st1 (evI cf env ib st1) = some (y, st2))
    (k : ∀ v w θ' F' H' ow', Stp θ F H ow θ' F' H' ow' → Hok θ' F' H' ow' st2 → RB C θ' F' (Hn ow' H') x v → RB C θ' F' (Hn ow' H') y w → Q v w H') : SemE X a σ H fun v H1 => SemE X b σ H1 fun w H2 => Q v w H2 := by
  refine ha θ F H ow st σ env x st1 _ ok en e1 fun v θ1 F1 H1 ow1 s1 o1 r1 => ?_
  refine hb θ1 F1 H1 ow1 st1 σ env y st2 _ o1 (en.stp s1) e2 fun w θ2 F2 H2 ow2 s2 o2 r2 => ?_
  exact k v w θ2 F2 H2 ow2 (s1.trans o1 s2) o2 (RB.mono s2.leN s2.leF s2.th r1) r2
theorem brw2 {α : Type} {env : Env} {cf : CallF} {ia ib : Ir} {st : Sst} {f : D → D → Sst → Option α} {r : α} (h : (match brw env ia st (evI cf env ia st) with
      | none => none
      | some (x, st1) => match brw env ib st1 (evI cf env ib st1) with
        | none => none
        | some (y, st2) => f x y st2) = some r) : ∃ x st1 y st2, brw env ia st (evI cf env ia st) = some (x, st1) ∧ brw env ib st1 (evI cf env ib st1) = some (y, st2) ∧ f x y st2 = some r := by
  cases e1 : brw env ia st (evI cf env ia st) with
  | none => rw [e1] at h; cases h
  | some p =>
    obtain ⟨x, st1⟩ := p
    rw [e1] at h
    simp only at h
    cases e2 : brw env ib st1 (evI cf env ib st1) with
    | none => rw [e2] at h; cases h
    | some q =>
      obtain ⟨y, st2⟩ := q
      rw [e2] at h
      exact ⟨x, st1, y, st2, rfl, e2, h⟩
theorem e_bin_del (hK : X.K = C.K) {op : Operator} {a b : Expr} {ia ib : Ir} {pos : Pos} (ha : BOk C cf X a ia) (hb : BOk C cf X b ib) : ∀ θ F H ow st σ env d st1 Q, Hok θ F H ow st → EnvOk C θ F H ow σ env → evI cf env (.bin op ia ib) st = some (d, st1) →
      (∀ θ' F' H' ow', Stp θ F H ow θ' F' H' ow' → Hok θ' F' H' ow' st1 → Del C θ' F' d H' Q) → SemE X (.BinOp a op b pos) σ H Q := by
  intro θ F H ow st σ env d st1 Q ok en ev k
  obtain ⟨x, s1, y, s2, e1, e2, e3⟩ := brw2 (f := fun x y st2 => match binD op x y with
        | some z => some (z, st2)
        | none => none) ev
  cases e4 : binD op x y with
  | none => simp only [e4] at e3; cases e3
  | some z =>
    simp only [e4] at e3
    cases e3
    refine se (pe_op (op_bin hK op) pe_sem pe_sem) ?_
    exact two_b ha hb ok en e1 e2 fun v w θ' F' H' ow' s o r1 r2 => ⟨θ', F', Hn ow' H', x, y, o.leN, Hn_le, r1, r2, _, e4, k θ' F' H' ow' s o⟩
theorem e_bin (hK : X.K = C.K) {op : Operator} {a b : Expr} {ia ib : Ir} {pos : Pos} (ha : BOk C cf X a ia) (hb : BOk C cf X b ib) : EOk C cf X (.BinOp a op b pos) (.bin op ia ib) ∧ TOk C cf X (.BinOp a op b pos) (.bin op ia ib) := by
  have E := EOk.of_del (e_bin_del (pos := pos) (op := op) hK ha hb)
  refine ⟨E, ?_⟩
  cases hf : freshB (.bin op ia ib) with
  | true => exact TOk.of_del rfl (e_bin_del hK ha hb) hf
  | false => exact E.t rfl hf
theorem cmp_inv {op : CmpOp} {ia ib : Ir} {env : Env} {st st1 : Sst} {d : D} (ev : evI cf env (.cmp op ia ib) st = some (d, st1)) : ∃ x s1 y z, brw env ia st (evI cf env ia st) = some (x, s1) ∧ brw env ib s1 (evI cf env ib s1) = some (y, st1) ∧ cmpD op x y = some z ∧ d = .bl z := by
  obtain ⟨x, s1, y, s2, e1, e2, e3⟩ := brw2 (f := fun x y st2 => match cmpD op x y with
        | some z => some (D.bl z, st2)
        | none => none) ev
  cases e4 : cmpD op x y with
  | none => simp only [e4] at e3; cases e3
  | some z =>
    simp only [e4] at e3
    cases e3
    exact ⟨x, s1, y, z, e1, e2, e4, rfl⟩
theorem e_cmp (hK : X.K = C.K) (hu : X.A.units + 200 < cLine) {op : CmpOp} {a b : Expr} {ia ib : Ir} {pos : Pos} (ha : BOk C cf X a ia) (hb : BOk C cf X b ib) (nb : nst b = true) : EOk C cf X (.Compare a [op] [b] pos) (.cmp op ia ib) ∧ COk C cf X (.Compare a [op] [b] pos) (.cmp op ia ib) := by
  constructor
  · intro θ F H ow st σ env d st1 Q ok en ev k
    obtain ⟨x, s1, y, z, e1, e2, e4, rfl⟩ := cmp_inv ev
    refine se (pe_cmpR (op_cmp hK (by omega) op) pe_sem pe_sem (no_behind nb)) ?_
    exact two_b ha hb ok en e1 e2 fun v w θ' F' H' ow' s o r1 r2 => ⟨θ', F', Hn ow' H', x, y, o.leN, Hn_le, r1, r2, z, e4, k _ θ' F' H' ow' s o rfl⟩
  · intro θ F H ow st σ env b' st1 Q ok en ev k
    obtain ⟨x, s1, y, z, e1, e2, e4, ez⟩ := cmp_inv ev
    cases ez
    refine sc' (pt_cmpR (op_cmp hK (by omega) op) pe_sem pe_sem (no_behind nb)) ?_
    exact two_b ha hb ok en e1 e2 fun v w θ' F' H' ow' s o r1 r2 => ⟨θ', F', Hn ow' H', x, y, o.leN, Hn_le, r1, r2, b', e4, b', rfl, k θ' F' H' ow' s o⟩
theorem chain_inv {op op' : CmpOp} {ia ib ic : Ir} {env : Env} {st st1 : Sst} {d : D} (ev : evI cf env (.chain op op' ia ib ic) st = some (d, st1)) : ∃ x s1 y s2 z, brw env ia st (evI cf env ia st) = some (x, s1) ∧ brw env ib s1 (evI cf env ib s1) = some (y, s2) ∧ cmpD op x y = some z ∧
    ((z = false ∧ d = .bl false ∧ st1 = s2) ∨ (z = true ∧ ∃ u w, brw env ic s2 (evI cf env ic s2) = some (u, st1) ∧ cmpD op' y u = some w ∧ d = .bl w)) := by
  obtain ⟨x, s1, y, s2, e1, e2, e3⟩ := brw2 (f := fun x y st2 => match cmpD op x y with
        | none => none
        | some false => some (D.bl false, st2)
        | some true => match brw env ic st2 (evI cf env ic st2) with
          | none => none
          | some (z, st3) => match cmpD op' y z with
            | some w => some (D.bl w, st3)
            | none => none) ev
  cases e4 : cmpD op x y with
  | none => simp only [e4] at e3; cases e3
  | some z =>
    cases z with
    | false =>
      simp only [e4] at e3
      cases e3
      exact ⟨x, s1, y, _, false, e1, e2, e4, .inl ⟨rfl, rfl, rfl⟩⟩
    | true =>
      simp only [e4] at e3
      cases e5 : brw env ic s2 (evI cf env ic s2) with
      | none => simp only [e5] at e3; cases e3
      | some p =>
        obtain ⟨u, s3⟩ := p
        simp only [e5] at e3
        cases e6 : cmpD op' y u with
        | none => simp only [e6] at e3; cases e3
        | some w =>
          simp only [e6] at e3
          cases e3
          exact ⟨x, s1, y, _, true, e1, e2, e4, .inr ⟨rfl, u, w, e5, e6, rfl⟩⟩
theorem chain_run (hK : X.K = C.K) (hu : X.A.units + 200 < cLine) {op op' : CmpOp} {a b c : Expr} {ia ib ic : Ir} (ha : BOk C cf X a ia) (hb : BOk C cf X b ib) (hc : BOk C cf X c ic)
    {θ : Toks} {F H : Hp} {ow : OwF} {st st1 : Sst} {σ : L2.St} {env : Env} {d : D} {Q : VK} (ok : Hok θ F H ow st) (en : EnvOk C θ F H ow σ env) (ev : evI cf env (.chain op op' ia ib ic) st = some (d, st1))
    (k : ∀ z θ' F' H' ow', d = .bl z → Stp θ F H ow θ' F' H' ow' → Hok θ' F' H' ow' st1 → Q (.bl z) H') : tChain (rCmp C op) (rCmp C op') (SemE X a) (SemE X b) (SemE X c) σ H Q := by
  obtain ⟨x, s1, y, s2, z, e1, e2, e4, h⟩ := chain_inv ev
  refine two_b ha hb ok en e1 e2 fun v w θ' F' H' ow' s o r1 r2 => ⟨θ', F', Hn ow' H', x, y, o.leN, Hn_le, r1, r2, z, e4, z, rfl, ?_⟩
  rcases h with ⟨rfl, rfl, rfl⟩ | ⟨rfl, u, w', e5, e6, rfl⟩
  · exact k false θ' F' H' ow' rfl s o
  · refine hc θ' F' H' ow' s2 σ env u st1 _ o (en.stp s) e5 fun v3 θ3 F3 H3 ow3 s3 o3 r3 => ?_
    exact ⟨θ3, F3, Hn ow3 H3, y, u, o3.leN, Hn_le, RB.mono s3.leN s3.leF s3.th r2, r3, w', e6, k w' θ3 F3 H3 ow3 rfl (s.trans o s3) o3⟩
theorem e_chain (hK : X.K = C.K) (hu : X.A.units + 200 < cLine) {op op' : CmpOp} {a b c : Expr} {ia ib ic : Ir} {pos : Pos} (ha : BOk C cf X a ia) (hb : BOk C cf X b ib) (hc : BOk C cf X c ic) (nc : nst c = true) :
    EOk C cf X (.Compare a [op, op'] [b, c] pos) (.chain op op' ia ib ic) ∧ COk C cf X (.Compare a [op, op'] [b, c] pos) (.chain op op' ia ib ic) := by
  have hm : lastMarks [op, op'] [b, c] = false := no_behind nc
  constructor
  · intro θ F H ow st σ env d st1 Q ok en ev k
    refine se (pe_chain (op_cmp hK (by omega) op) (op_cmp hK (by omega) op') pe_sem pe_sem pe_sem hm) ?_
    exact chain_run hK hu ha hb hc ok en ev fun z θ' F' H' ow' e s o => k _ θ' F' H' ow' s o (by rw [e]; rfl)
  · intro θ F H ow st σ env b' st1 Q ok en ev k
    refine sc' (pt_chain (op_cmp hK (by omega) op) (op_cmp hK (by omega) op') pe_sem pe_sem pe_sem hm) ?_
    exact chain_run hK hu ha hb hc ok en ev fun z θ' F' H' ow' e s o => ⟨z, rfl, by cases e; exact k θ' F' H' ow' s o⟩
end
end Ev
/-! EvX3 -/
namespace Ev
open PySem PySem.Spec PyProof.Rows L2
section
variable {C : Ctx} {cf : CallF} {X : Cx}
theorem brw1 {α : Type} {env : Env} {ia : Ir} {st : Sst} {f : D → Sst → Option α} {r : α} (h : (match brw env ia st (evI cf env ia st) with
      | none => none
      | some (x, st1) => f x st1) = some r) : ∃ x st1, brw env ia st (evI cf env ia st) = some (x, st1) ∧ f x st1 = some r := by
  cases e1 : brw env ia st (evI cf env ia st) with
  | none => rw [e1] at h; cases h
  | some p =>
    obtain ⟨x, st1⟩ := p
    rw [e1] at h
    exact ⟨x, st1, rfl, h⟩
/-! ### is None -/
theorem rb_non {θ : Toks} {F G : Hp} {x : D} {v : V} (r : RB C θ F G x v) : (x = .non ∧ v = .non) ∨ (x ≠ .non ∧ v ≠ .non) := by
  cases x with
  | non => exact .inl ⟨rfl, r⟩
  | bl b => right; refine ⟨(fun h => by cases h), ?_⟩; rw [show v = V.bl b from r]; exact fun h => by cases h
  | int b => right; refine ⟨(fun h => by cases h), ?_⟩; rw [show v = V.int b from r]; exact fun h => by cases h
  | str b => right; refine ⟨(fun h => by cases h), ?_⟩; rw [show v = V.str b from r]; exact fun h => by cases h
  | lst b => right; refine ⟨(fun h => by cases h), ?_⟩; obtain ⟨a, _, e, _⟩ := r; rw [e]; exact fun h => by cases h
  | tup b => right; refine ⟨(fun h => by cases h), ?_⟩; obtain ⟨a, _, e, _⟩ := r; rw [e]; exact fun h => by cases h
  | dct b => right; refine ⟨(fun h => by cases h), ?_⟩; obtain ⟨a, _, e, _⟩ := r; rw [e]; exact fun h => by cases h
  | obj b c => right; refine ⟨(fun h => by cases h), ?_⟩; obtain ⟨a, _, _, e, _⟩ := r; rw [e]; exact fun h => by cases h
  | tok b => right; refine ⟨(fun h => by cases h), ?_⟩; obtain ⟨a, _, e⟩ := r; rw [e]; exact fun h => by cases h
theorem isN_inv {ia : Ir} {env : Env} {st st1 : Sst} {d : D} (ev : evI cf env (.isN ia) st = some (d, st1)) : ∃ x, brw env ia st (evI cf env ia st) = some (x, st1) ∧ ((x = .non ∧ d = .bl true) ∨ (x ≠ .non ∧ d = .bl false)) := by
  unfold evI at ev
  split at ev
  · rename_i s1 e1; cases ev; exact ⟨_, e1, .inl ⟨rfl, rfl⟩⟩
  · rename_i x s1 hx e1; cases ev; exact ⟨x, e1, .inr ⟨fun h => by subst h; first | exact hx _ e1 | exact hx rfl | exact hx _ rfl | exact hx, rfl⟩⟩
  · cases ev
theorem notN_inv {ia : Ir} {env : Env} {st st1 : Sst} {d : D} (ev : evI cf env (.notN ia) st = some (d, st1)) : ∃ x, brw env ia st (evI cf env ia st) = some (x, st1) ∧ ((x = .non ∧ d = .bl false) ∨ (x ≠ .non ∧ d = .bl true)) := by
  unfold evI at ev
  split at ev
  · rename_i s1 e1; cases ev; exact ⟨_, e1, .inl ⟨rfl, rfl⟩⟩
  · rename_i x s1 hx e1; cases ev; exact ⟨x, e1, .inr ⟨fun h => by subst h; first | exact hx _ e1 | exact hx rfl | exact hx _ rfl | exact hx, rfl⟩⟩
  · cases ev
theorem isN_run {a : Expr} {ia : Ir} {neg : Bool} (ha : BOk C cf X a ia) {θ : Toks} {F H : Hp} {ow : OwF} {st st1 : Sst} {σ : L2.St} {env : Env} {x d : D} {Q : VK} (ok : Hok θ F H ow st) (en : EnvOk C θ F H ow σ env)
    (e1 : brw env ia st (evI cf env ia st) = some (x, st1)) (h : (x = .non ∧ d = .bl (!neg)) ∨ (x ≠ .non ∧ d = .bl neg))
    (k : ∀ z θ' F' H' ow', d = .bl z → Stp θ F H ow θ' F' H' ow' → Hok θ' F' H' ow' st1 → Q (.bl z) H') :
    tOp (fun x y H Q => y = .non ∧ Q (.bl (if neg then !decide (x = V.non) else decide (x = V.non))) H) (SemE X a) (tC .non) σ H Q := by
  refine ha θ F H ow st σ env x st1 _ ok en e1 fun v θ1 F1 H1 ow1 s1 o1 r1 => ⟨rfl, ?_⟩
  rcases rb_non r1 with ⟨rfl, rfl⟩ | ⟨n1, n2⟩
  · rcases h with ⟨_, rfl⟩ | ⟨h, _⟩
    · cases neg <;> exact k _ θ1 F1 H1 ow1 rfl s1 o1
    · exact absurd rfl h
  · rcases h with ⟨h, _⟩ | ⟨_, rfl⟩
    · exact absurd h n1
    · rw [decide_eq_false n2]
      cases neg <;> exact k _ θ1 F1 H1 ow1 rfl s1 o1
theorem e_isN {a : Expr} {ia : Ir} {pos p2 : Pos} {j : Nat} (ha : BOk C cf X a ia) : EOk C cf X (.Compare a [.Is] [.Constant .none j p2] pos) (.isN ia) ∧ COk C cf X (.Compare a [.Is] [.Constant .none j p2] pos) (.isN ia) := by
  constructor
  · intro θ F H ow st σ env d st1 Q ok en ev k
    obtain ⟨x, e1, h⟩ := isN_inv ev
    refine se (pe_cmpR op_isN pe_sem pe_non rfl) ?_
    exact isN_run (neg := false) ha ok en e1 h fun z θ' F' H' ow' e s o => k _ θ' F' H' ow' s o (by rw [e]; rfl)
  · intro θ F H ow st σ env b' st1 Q ok en ev k
    obtain ⟨x, e1, h⟩ := isN_inv ev
    refine sc' (pt_cmpR op_isN pe_sem pe_non rfl) ?_
    exact isN_run (neg := false) ha ok en e1 h fun z θ' F' H' ow' e s o => ⟨z, rfl, by cases e; exact k θ' F' H' ow' s o⟩
theorem e_notN {a : Expr} {ia : Ir} {pos p2 : Pos} {j : Nat} (ha : BOk C cf X a ia) : EOk C cf X (.Compare a [.IsNot] [.Constant .none j p2] pos) (.notN ia) ∧ COk C cf X (.Compare a [.IsNot] [.Constant .none j p2] pos) (.notN ia) := by
  constructor
  · intro θ F H ow st σ env d st1 Q ok en ev k
    obtain ⟨x, e1, h⟩ := notN_inv ev
    refine se (pe_cmpR op_notN pe_sem pe_non rfl) ?_
    exact isN_run (neg := true) ha ok en e1 h fun z θ' F' H' ow' e s o => k _ θ' F' H' ow' s o (by rw [e]; rfl)
  · intro θ F H ow st σ env b' st1 Q ok en ev k
    obtain ⟨x, e1, h⟩ := notN_inv ev
    refine sc' (pt_cmpR op_notN pe_sem pe_non rfl) ?_
    exact isN_run (neg := true) ha ok en e1 h fun z θ' F' H' ow' e s o => ⟨z, rfl, by cases e; exact k θ' F' H' ow' s o⟩

/-! ### and, or, not, if -/
def SemW (X : Cx) (e : Expr) : TT := fun σ H Q => ∀ (whole : Sem Value) (pins : List (Addr × Obj)) (s : Shared), Inv X pins σ H s → wpAny (model X.prog X.w) X.A (isTrue e X.env whole) (TP X pins σ Q) X.xe s
theorem pw_sem {e : Expr} : PW X e (SemW X e) := ⟨fun wh pins s _ _ _ I h => h wh pins s I⟩
theorem sw' {e : Expr} {t : TT} (h : PW X e t) {σ : L2.St} {H : Hp} {Q : Bool → Hp → Prop} (q : t σ H Q) : SemW X e σ H Q := fun wh pins s I => h.run wh pins s σ H Q I q
def WOk (C : Ctx) (cf : CallF) (X : Cx) (e : Expr) (i : Ir) : Prop := ∀ θ F H ow st σ env b st1 Q, Hok θ F H ow st → EnvOk C θ F H ow σ env → evI cf env i st = some (.bl b, st1) →
  (∀ θ' F' H' ow', Stp θ F H ow θ' F' H' ow' → Hok θ' F' H' ow' st1 → Q b H') → SemW X e σ H Q
theorem WOk.c {e : Expr} {i : Ir} (h : WOk C cf X e i) : COk C cf X e i := fun θ F H ow st σ env b st1 Q ok en ev k => fun pins s I => h θ F H ow st σ env b st1 Q ok en ev k _ pins s I
theorem and_inv {ia ib : Ir} {env : Env} {st st1 : Sst} {d : D} (ev : evI cf env (.and ia ib) st = some (d, st1)) : (∃ s1, evI cf env ia st = some (.bl true, s1) ∧ evI cf env ib s1 = some (d, st1)) ∨ (evI cf env ia st = some (.bl false, st1) ∧ d = .bl false) := by
  unfold evI at ev
  split at ev
  · rename_i s1 e1; exact .inl ⟨s1, e1, ev⟩
  · rename_i s1 e1; cases ev; exact .inr ⟨e1, rfl⟩
  · cases ev
theorem or_inv {ia ib : Ir} {env : Env} {st st1 : Sst} {d : D} (ev : evI cf env (.or ia ib) st = some (d, st1)) : (∃ s1, evI cf env ia st = some (.bl false, s1) ∧ evI cf env ib s1 = some (d, st1)) ∨ (evI cf env ia st = some (.bl true, st1) ∧ d = .bl true) := by
  unfold evI at ev
  split at ev
  · rename_i s1 e1; exact .inl ⟨s1, e1, ev⟩
  · rename_i s1 e1; cases ev; exact .inr ⟨e1, rfl⟩
  · cases ev
theorem and1 {a : Expr} {ia : Ir} {pos : Pos} (ha : EOk C cf X a ia) (hc : COk C cf X a ia) : EOk C cf X (.BoolOp .And [a] pos) ia ∧ WOk C cf X (.BoolOp .And [a] pos) ia :=
  ⟨fun θ F H ow st σ env d st1 Q ok en ev k => se (pe_one pe_sem) (ha θ F H ow st σ env d st1 Q ok en ev k), fun θ F H ow st σ env b st1 Q ok en ev k => sw' (pw_and1 pt_sem) (hc θ F H ow st σ env b st1 Q ok en ev k)⟩
theorem or1 {a : Expr} {ia : Ir} {pos : Pos} (ha : EOk C cf X a ia) (hc : COk C cf X a ia) : EOk C cf X (.BoolOp .Or [a] pos) ia ∧ WOk C cf X (.BoolOp .Or [a] pos) ia :=
  ⟨fun θ F H ow st σ env d st1 Q ok en ev k => se (pe_one pe_sem) (ha θ F H ow st σ env d st1 Q ok en ev k), fun θ F H ow st σ env b st1 Q ok en ev k => sw' (pw_or1 pt_sem) (hc θ F H ow st σ env b st1 Q ok en ev k)⟩
theorem and2 {a b : Expr} {rest : List Expr} {ia ib : Ir} {pos : Pos} (ha : EOk C cf X a ia) (hc : COk C cf X a ia) (hb : EOk C cf X (.BoolOp .And (b :: rest) pos) ib ∧ WOk C cf X (.BoolOp .And (b :: rest) pos) ib) :
    EOk C cf X (.BoolOp .And (a :: b :: rest) pos) (.and ia ib) ∧ WOk C cf X (.BoolOp .And (a :: b :: rest) pos) (.and ia ib) := by
  constructor
  · intro θ F H ow st σ env d st1 Q ok en ev k
    refine se (pe_and pe_sem pe_sem) ?_
    rcases and_inv ev with ⟨s1, e1, e2⟩ | ⟨e1, rfl⟩
    · exact ha θ F H ow st σ env _ s1 _ ok en e1 fun v θ1 F1 H1 ow1 st1' o1 r1 => ⟨true, r1, hb.1 θ1 F1 H1 ow1 s1 σ env d st1 Q o1 (en.stp st1') e2 fun w θ2 F2 H2 ow2 st2' o2 r2 => k w θ2 F2 H2 ow2 (st1'.trans o1 st2') o2 r2⟩
    · exact ha θ F H ow st σ env _ st1 _ ok en e1 fun v θ1 F1 H1 ow1 st1' o1 r1 => ⟨false, r1, k _ θ1 F1 H1 ow1 st1' o1 rfl⟩
  · intro θ F H ow st σ env d st1 Q ok en ev k
    refine sw' (pw_and pt_sem pw_sem) ?_
    rcases and_inv ev with ⟨s1, e1, e2⟩ | ⟨e1, e3⟩
    · exact hc θ F H ow st σ env _ s1 _ ok en e1 fun θ1 F1 H1 ow1 st1' o1 => hb.2 θ1 F1 H1 ow1 s1 σ env d st1 Q o1 (en.stp st1') e2 fun θ2 F2 H2 ow2 st2' o2 => k θ2 F2 H2 ow2 (st1'.trans o1 st2') o2
    · cases e3
      exact hc θ F H ow st σ env _ st1 _ ok en e1 fun θ1 F1 H1 ow1 st1' o1 => k θ1 F1 H1 ow1 st1' o1
theorem or2 {a b : Expr} {rest : List Expr} {ia ib : Ir} {pos : Pos} (ha : EOk C cf X a ia) (hc : COk C cf X a ia) (hb : EOk C cf X (.BoolOp .Or (b :: rest) pos) ib ∧ WOk C cf X (.BoolOp .Or (b :: rest) pos) ib) :
    EOk C cf X (.BoolOp .Or (a :: b :: rest) pos) (.or ia ib) ∧ WOk C cf X (.BoolOp .Or (a :: b :: rest) pos) (.or ia ib) := by
  constructor
  · intro θ F H ow st σ env d st1 Q ok en ev k
    refine se (pe_or pe_sem pe_sem) ?_
    rcases or_inv ev with ⟨s1, e1, e2⟩ | ⟨e1, rfl⟩
    · exact ha θ F H ow st σ env _ s1 _ ok en e1 fun v θ1 F1 H1 ow1 st1' o1 r1 => ⟨false, r1, hb.1 θ1 F1 H1 ow1 s1 σ env d st1 Q o1 (en.stp st1') e2 fun w θ2 F2 H2 ow2 st2' o2 r2 => k w θ2 F2 H2 ow2 (st1'.trans o1 st2') o2 r2⟩
    · exact ha θ F H ow st σ env _ st1 _ ok en e1 fun v θ1 F1 H1 ow1 st1' o1 r1 => ⟨true, r1, k _ θ1 F1 H1 ow1 st1' o1 rfl⟩
  · intro θ F H ow st σ env d st1 Q ok en ev k
    refine sw' (pw_or pt_sem pw_sem) ?_
    rcases or_inv ev with ⟨s1, e1, e2⟩ | ⟨e1, e3⟩
    · exact hc θ F H ow st σ env _ s1 _ ok en e1 fun θ1 F1 H1 ow1 st1' o1 => hb.2 θ1 F1 H1 ow1 s1 σ env d st1 Q o1 (en.stp st1') e2 fun θ2 F2 H2 ow2 st2' o2 => k θ2 F2 H2 ow2 (st1'.trans o1 st2') o2
    · cases e3
      exact hc θ F H ow st σ env _ st1 _ ok en e1 fun θ1 F1 H1 ow1 st1' o1 => k θ1 F1 H1 ow1 st1' o1
theorem boolAnd {pos : Pos} : ∀ {es : List Expr} {is : List Ir} {i : Ir}, Paired (fun e i => EOk C cf X e i ∧ COk C cf X e i) es is → foldB .and is = some i → EOk C cf X (.BoolOp .And es pos) i ∧ WOk C cf X (.BoolOp .And es pos) i
  | _, _, _, .nil, h => by cases h
  | _, _, _, .cons q .nil, h => by cases h; exact and1 q.1 q.2
  | _, _, _, .cons q (.cons q2 r), h => by
    obtain ⟨j, e, rfl⟩ := Option.map_eq_some_iff.mp h
    exact and2 q.1 q.2 (boolAnd (.cons q2 r) e)
theorem boolOr {pos : Pos} : ∀ {es : List Expr} {is : List Ir} {i : Ir}, Paired (fun e i => EOk C cf X e i ∧ COk C cf X e i) es is → foldB .or is = some i → EOk C cf X (.BoolOp .Or es pos) i ∧ WOk C cf X (.BoolOp .Or es pos) i
  | _, _, _, .nil, h => by cases h
  | _, _, _, .cons q .nil, h => by cases h; exact or1 q.1 q.2
  | _, _, _, .cons q (.cons q2 r), h => by
    obtain ⟨j, e, rfl⟩ := Option.map_eq_some_iff.mp h
    exact or2 q.1 q.2 (boolOr (.cons q2 r) e)
theorem not_inv {ia : Ir} {env : Env} {st st1 : Sst} {d : D} (ev : evI cf env (.not ia) st = some (d, st1)) : ∃ b, evI cf env ia st = some (.bl b, st1) ∧ d = .bl (!b) := by
  unfold evI at ev
  split at ev
  · rename_i b s1 e1; cases ev; exact ⟨b, e1, rfl⟩
  · cases ev
theorem e_not {a : Expr} {ia : Ir} {pos : Pos} (ha : EOk C cf X a ia) (hc : COk C cf X a ia) : EOk C cf X (.UnaryOp .Not a pos) (.not ia) ∧ COk C cf X (.UnaryOp .Not a pos) (.not ia) := by
  constructor
  · intro θ F H ow st σ env d st1 Q ok en ev k
    obtain ⟨b, e1, rfl⟩ := not_inv ev
    refine se (pe_not pe_sem) ?_
    exact ha θ F H ow st σ env _ st1 _ ok en e1 fun v θ1 F1 H1 ow1 s1 o1 r1 => ⟨b, r1, k _ θ1 F1 H1 ow1 s1 o1 rfl⟩
  · intro θ F H ow st σ env d st1 Q ok en ev k
    obtain ⟨b, e1, e2⟩ := not_inv ev
    cases e2
    refine sc' (pt_not pt_sem) ?_
    exact hc θ F H ow st σ env _ st1 _ ok en e1 fun θ1 F1 H1 ow1 s1 o1 => k θ1 F1 H1 ow1 s1 o1
theorem ite_inv {ic ia ib : Ir} {env : Env} {st st1 : Sst} {d : D} (ev : evI cf env (.ite ic ia ib) st = some (d, st1)) : ∃ b s1, evI cf env ic st = some (.bl b, s1) ∧ ((b = true ∧ evI cf env ia s1 = some (d, st1)) ∨ (b = false ∧ evI cf env ib s1 = some (d, st1))) := by
  unfold evI at ev
  split at ev
  · rename_i s1 e1; exact ⟨true, s1, e1, .inl ⟨rfl, ev⟩⟩
  · rename_i s1 e1; exact ⟨false, s1, e1, .inr ⟨rfl, ev⟩⟩
  · cases ev
theorem e_ite {c a b : Expr} {ic ia ib : Ir} {pos : Pos} (hc : COk C cf X c ic) (ha : EOk C cf X a ia) (hb : EOk C cf X b ib) (ca : COk C cf X a ia) (cb : COk C cf X b ib) : EOk C cf X (.IfExp c a b pos) (.ite ic ia ib) ∧ COk C cf X (.IfExp c a b pos) (.ite ic ia ib) := by
  constructor
  · intro θ F H ow st σ env d st1 Q ok en ev k
    obtain ⟨z, s1, e1, h⟩ := ite_inv ev
    refine se (pe_ifExp pt_sem pe_sem pe_sem) ?_
    refine hc θ F H ow st σ env _ s1 _ ok en e1 fun θ1 F1 H1 ow1 st1' o1 => ?_
    rcases h with ⟨rfl, e2⟩ | ⟨rfl, e2⟩
    · exact ha θ1 F1 H1 ow1 s1 σ env d st1 Q o1 (en.stp st1') e2 fun w θ2 F2 H2 ow2 st2' o2 r2 => k w θ2 F2 H2 ow2 (st1'.trans o1 st2') o2 r2
    · exact hb θ1 F1 H1 ow1 s1 σ env d st1 Q o1 (en.stp st1') e2 fun w θ2 F2 H2 ow2 st2' o2 r2 => k w θ2 F2 H2 ow2 (st1'.trans o1 st2') o2 r2
  · intro θ F H ow st σ env d st1 Q ok en ev k
    obtain ⟨z, s1, e1, h⟩ := ite_inv ev
    intro pins s I
    refine isTrue_IfExp (thn (hc θ F H ow st σ env _ s1 (fun b' H1 => if b' = true then SemC X a σ H1 Q else SemC X b σ H1 Q) ok en e1 (fun θ1 F1 H1 ow1 st1' o1 => ?_) pins s I) fun b' s' ⟨H1, I1, q⟩ => ?_)
    · rcases h with ⟨rfl, e2⟩ | ⟨rfl, e2⟩
      · exact ca θ1 F1 H1 ow1 s1 σ env d st1 Q o1 (en.stp st1') e2 fun θ2 F2 H2 ow2 st2' o2 => k θ2 F2 H2 ow2 (st1'.trans o1 st2') o2
      · exact cb θ1 F1 H1 ow1 s1 σ env d st1 Q o1 (en.stp st1') e2 fun θ2 F2 H2 ow2 st2' o2 => k θ2 F2 H2 ow2 (st1'.trans o1 st2') o2
    · cases b' with
      | true => exact q pins s' I1
      | false => exact q pins s' I1

/-! ### minus, subscripts, slices, fields -/
theorem e_neg {a : Expr} {ia : Ir} {pos : Pos} (ha : EOk C cf X a ia) : EOk C cf X (.UnaryOp .USub a pos) (.neg ia) := by
  intro θ F H ow st σ env d st1 Q ok en ev k
  unfold evI at ev
  split at ev
  · rename_i i s1 e1
    cases ev
    refine se (pe_un un_neg pe_sem) ?_
    exact ha θ F H ow st σ env _ st1 _ ok en e1 fun v θ1 F1 H1 ow1 s1 o1 r1 => ⟨i, r1, k _ θ1 F1 H1 ow1 s1 o1 rfl⟩
  · cases ev
theorem subS_some {st : Sst} {x y z : D} (h : subS st x y = some z) : subD x y = some z ∨ (x = .tok 0 ∧ ∃ s k, st = some s ∧ y = .int k ∧ ((k = 1 ∧ z = .int s.a) ∨ (k = 2 ∧ z = .int s.b) ∨ (k = 3 ∧ z = .int s.c))) := by
  cases x with
  | tok n =>
    right
    change (if n = 0 then (match st with
      | some s => (match y with
        | .int k => if k = 1 then some (D.int s.a) else if k = 2 then some (.int s.b) else if k = 3 then some (.int s.c) else none
        | _ => none)
      | none => none) else none) = some z at h
    split at h
    · rename_i hn
      subst hn
      cases st with
      | none => cases h
      | some s =>
        cases y with
        | int k =>
          refine ⟨rfl, s, k, rfl, rfl, ?_⟩
          change (if k = 1 then some (D.int s.a) else if k = 2 then some (.int s.b) else if k = 3 then some (.int s.c) else none) = some z at h
          split at h
          · cases h; exact .inl ⟨by assumption, rfl⟩
          · split at h
            · cases h; exact .inr (.inl ⟨by assumption, rfl⟩)
            · split at h
              · cases h; exact .inr (.inr ⟨by assumption, rfl⟩)
              · cases h
        | _ => cases h
    · cases h
  | _ => exact .inl h
theorem e_sub (hK : X.K = C.K) (hu : X.A.units + 200 < cLine) {a b : Expr} {ia ib : Ir} {pos : Pos} (ha : BOk C cf X a ia) (hb : EOk C cf X b ib) (nb : nst b = true) : EOk C cf X (.Subscript a b pos) (.sub ia ib) := by
  intro θ F H ow st σ env d st1 Q ok en ev k
  obtain ⟨x, s1, e1, e2⟩ := brw1 (f := fun x st1 => match evI cf env ib st1 with
      | none => none
      | some (y, st2) => match subS st2 x y with
        | some z => some (z, st2)
        | none => none) ev
  cases e3 : evI cf env ib s1 with
  | none => simp only [e3] at e2; cases e2
  | some p =>
    obtain ⟨y, s2⟩ := p
    simp only [e3] at e2
    cases e4 : subS s2 x y with
    | none => simp only [e4] at e2; cases e2
    | some z =>
      simp only [e4] at e2
      cases e2
      refine se (pe_ix ((ix_sub (C := C) hK hu).or ix_list) pe_sem pe_sem (plain_ix nb)) ?_
      refine ha θ F H ow st σ env x s1 _ ok en e1 fun v θ1 F1 H1 ow1 st1' o1 r1 => ?_
      refine hb θ1 F1 H1 ow1 s1 σ env y _ _ o1 (en.stp st1') e3 fun w θ2 F2 H2 ow2 st2' o2 r2 => ?_
      have rr := RB.mono st2'.leN st2'.leF st2'.th r1
      rcases subS_some e4 with e5 | ⟨rfl, s8, j, rfl, rfl, hz⟩
      · exact .inl ⟨θ2, F2, Hn ow2 H2, x, y, o2.leN, Hn_le, rr, r2, _, e5, fun u ru => k u θ2 F2 H2 ow2 (st1'.trans o1 st2') o2 ru⟩
      · obtain ⟨p, hp, rfl⟩ := rr
        obtain ⟨s, l, q1, q2, q3, q4, q5, q6⟩ := o2.str
        rw [hp] at q1
        cases q1
        cases (show w = V.int j from r2)
        rcases hz with ⟨rfl, rfl⟩ | ⟨rfl, rfl⟩ | ⟨rfl, rfl⟩
        · exact .inr ⟨p, _, _, _, rfl, rfl, SqL.of q3, rfl, k _ θ2 F2 H2 ow2 (st1'.trans o1 st2') o2 rfl⟩
        · exact .inr ⟨p, _, _, _, rfl, rfl, SqL.of q3, rfl, k _ θ2 F2 H2 ow2 (st1'.trans o1 st2') o2 rfl⟩
        · exact .inr ⟨p, _, _, _, rfl, rfl, SqL.of q3, rfl, k _ θ2 F2 H2 ow2 (st1'.trans o1 st2') o2 rfl⟩
/-- a slice's part -/
def OOk (C : Ctx) (cf : CallF) (X : Cx) (e : Option Expr) (i : Option Ir) : Prop := (e = none ∧ i = none) ∨ ∃ e' i', e = some e' ∧ i = some i' ∧ EOk C cf X e' i'
def SemO (X : Cx) (e : Option Expr) : TO := fun σ H Q => ∀ (pins : List (Addr × Obj)) (s : Shared), Inv X pins σ H s → wpAny (model X.prog X.w) X.A (evalPart e X.env) (fun u s' => ∃ o H', Inv X pins σ H' s' ∧ IsPart u o ∧ Q o H') X.xe s
theorem po_sem {e : Option Expr} : PO X e (SemO X e) := ⟨fun pins s _ _ _ I h => h pins s I⟩
theorem OOk.run {e : Option Expr} {i : Option Ir} (h : OOk C cf X e i) {θ : Toks} {F H : Hp} {ow : OwF} {st st1 : Sst} {σ : L2.St} {env : Env} {o : Option Int} {Q : Option Int → Hp → Prop} (ok : Hok θ F H ow st) (en : EnvOk C θ F H ow σ env) (ev : evO cf env i st = some (o, st1))
    (k : ∀ θ' F' H' ow', Stp θ F H ow θ' F' H' ow' → Hok θ' F' H' ow' st1 → Q o H') : SemO X e σ H Q := by
  rcases h with ⟨rfl, rfl⟩ | ⟨e', i', rfl, rfl, he⟩
  · cases (show some ((none : Option Int), st) = some (o, st1) from ev)
    exact fun pins s I => po_none.run pins s σ H Q I (k θ F H ow Stp.refl ok)
  · change (match evI cf env i' st with
      | some (.int i, st1) => some (some i, st1)
      | _ => none) = some (o, st1) at ev
    split at ev
    · rename_i n s1 e1
      cases ev
      exact fun pins s I => (po_some pe_sem).run pins s σ H Q I (he θ F H ow st σ env _ st1 _ ok en e1 fun v θ1 F1 H1 ow1 s1 o1 r1 => ⟨n, r1, k θ1 F1 H1 ow1 s1 o1⟩)
    · cases ev
theorem e_cut_del (hK : X.K = C.K) {a : Expr} {ia : Ir} {lo hi : Option Expr} {il ih : Option Ir} {pos p2 : Pos} (ha : BOk C cf X a ia) (hl : OOk C cf X lo il) (hh : OOk C cf X hi ih) : ∀ θ F H ow st σ env d st1 Q, Hok θ F H ow st → EnvOk C θ F H ow σ env → evI cf env (.cut ia il ih) st = some (d, st1) →
      (∀ θ' F' H' ow', Stp θ F H ow θ' F' H' ow' → Hok θ' F' H' ow' st1 → Del C θ' F' d H' Q) → SemE X (.Subscript a (.Slice lo hi none p2) pos) σ H Q := by
  intro θ F H ow st σ env d st1 Q ok en ev k
  obtain ⟨x, s1, e1, e2⟩ := brw1 (f := fun x st1 => match evO cf env il st1 with
      | none => none
      | some (l, st2) => match evO cf env ih st2 with
        | none => none
        | some (h, st3) => match cutD x l h with
          | some z => some (z, st3)
          | none => none) ev
  cases e3 : evO cf env il s1 with
  | none => simp only [e3] at e2; cases e2
  | some p =>
    obtain ⟨y, s2⟩ := p
    simp only [e3] at e2
    cases e4 : evO cf env ih s2 with
    | none => simp only [e4] at e2; cases e2
    | some q =>
      obtain ⟨u, s3⟩ := q
      simp only [e4] at e2
      cases e5 : cutD x y u with
      | none => simp only [e5] at e2; cases e2
      | some z =>
        simp only [e5] at e2
        cases e2
        refine se (pe_slice (sl_cut (C := C) hK) pe_sem po_sem po_sem) ?_
        refine ha θ F H ow st σ env x s1 _ ok en e1 fun v θ1 F1 H1 ow1 st1' o1 r1 => ?_
        refine hl.run o1 (en.stp st1') e3 fun θ2 F2 H2 ow2 st2' o2 => ?_
        refine hh.run o2 ((en.stp st1').stp st2') e4 fun θ3 F3 H3 ow3 st3' o3 => ?_
        have t2 := st2'.trans o2 st3'
        exact ⟨θ3, F3, Hn ow3 H3, x, o3.leN, Hn_le, RB.mono t2.leN t2.leF t2.th r1, _, e5, k θ3 F3 H3 ow3 (st1'.trans o1 t2) o3⟩
theorem e_cut (hK : X.K = C.K) {a : Expr} {ia : Ir} {lo hi : Option Expr} {il ih : Option Ir} {pos p2 : Pos} (ha : BOk C cf X a ia) (hl : OOk C cf X lo il) (hh : OOk C cf X hi ih) : TOk C cf X (.Subscript a (.Slice lo hi none p2) pos) (.cut ia il ih) := TOk.of_del rfl (e_cut_del hK ha hl hh) rfl
theorem RF.get {θ : Toks} {F : Hp} {f : Str} {d : D} : ∀ {fs : List (Str × D)} {vs : List (Str × V)}, RF C θ F fs vs → fs.lookup f = some d → ∃ v, vs.lookup f = some v ∧ R C θ F d v
  | [], vs, h, e => by cases e
  | (f', d') :: fs, vs, h, e => by
    obtain ⟨v, r, rfl, q, z⟩ := h
    rw [List.lookup_cons] at e ⊢
    cases hb : f == f' with
    | true =>
      rw [hb] at e
      cases e
      exact ⟨v, rfl, q⟩
    | false =>
      rw [hb] at e
      exact RF.get z e
theorem e_fld (hK : X.K = C.K) {a : Expr} {ia : Ir} {f : Str} {cs : List Str} {pos : Pos} (ha : BOk C cf X a ia) (na : nsup a = true) (hf : ∀ c ∈ cs, Cls C.K (C.cls c) ∧ NoAttr C.K (C.cls c) f) : EOk C cf X (.Attribute a f pos) (.fld ia f cs) := by
  intro θ F H ow st σ env d st1 Q ok en ev k
  unfold evI at ev
  split at ev
  · rename_i c fs s1 e1
    split at ev
    · rename_i hc
      split at ev
      · rename_i d' e2
        cases ev
        have hc : c ∈ cs := by simpa using hc
        refine se (pe_fld pe_sem (att_base na f X.env)) ?_
        refine ha θ F H ow st σ env _ st1 _ ok en e1 fun v θ1 F1 H1 ow1 st1' o1 r1 => ?_
        obtain ⟨p, dx, vs, rfl, hp, rf⟩ := r1
        obtain ⟨w, e3, r3⟩ := rf.get e2
        have := hf c hc
        rw [← hK] at this
        exact ⟨p, C.cls c, dx, vs, w, rfl, Hn_le.ins hp, this.1, this.2, e3, k w θ1 F1 H1 ow1 st1' o1 r3⟩
      · cases ev
    · cases ev
  · cases ev
end
end Ev
/-! EvX4 -/
namespace Ev
open PySem PySem.Spec PyProof.Rows L2
theorem mapO_paired {α β : Type} {f : α → Option β} : ∀ {xs : List α} {ys : List β}, mapO f xs = some ys → Paired (fun a b => f a = some b) xs ys
  | [], ys, h => by cases h; exact .nil
  | x :: xs, ys, h => by
    unfold mapO at h
    cases e1 : f x with
    | none => rw [e1] at h; cases h
    | some b =>
      cases e2 : mapO f xs with
      | none => rw [e1, e2] at h; cases h
      | some bs =>
        rw [e1, e2] at h
        cases h
        exact .cons e1 (mapO_paired e2)
theorem paired_length {α β : Type} {P : α → β → Prop} {xs : List α} {ys : List β} (p : Paired P xs ys) : xs.length = ys.length := by
  induction p with
  | nil => rfl
  | cons _ _ ih => rw [List.length_cons, List.length_cons, ih]
theorem paired_left {α β : Type} {P : α → β → Prop} {R : α → Prop} (h : ∀ a b, P a b → R a) {xs : List α} {ys : List β} (p : Paired P xs ys) : ∀ a ∈ xs, R a := by
  induction p with
  | nil => intro a ha; cases ha
  | cons q _ ih =>
    intro a ha
    rcases List.mem_cons.mp ha with rfl | ha
    · exact h _ _ q
    · exact ih a ha
section
variable {C : Ctx} {cf : CallF} {X : Cx}
theorem RBs.mono {θ θ' : Toks} {F F' G G' : Hp} (l : Le G G') (lf : Le F F') (t : Tle θ θ') : ∀ {ds : List D} {vs : List V}, RBs C θ F G ds vs → RBs C θ' F' G' ds vs
  | [], _, h => h
  | d :: ds, vs, h => by
    obtain ⟨v, r, rfl, q, z⟩ := h
    exact ⟨v, r, rfl, RB.mono l lf t q, RBs.mono l lf t z⟩
theorem evL_cons {env : Env} {e : Ir} {r : List Ir} {st st1 : Sst} {ds : List D} (h : evL cf env (e :: r) st = some (ds, st1)) : ∃ d s1 ds', evI cf env e st = some (d, s1) ∧ evL cf env r s1 = some (ds', st1) ∧ ds = d :: ds' := by
  unfold evL at h
  cases e1 : evI cf env e st with
  | none => rw [e1] at h; cases h
  | some p =>
    obtain ⟨d, s1⟩ := p
    rw [e1] at h
    simp only at h
    cases e2 : evL cf env r s1 with
    | none => rw [e2] at h; cases h
    | some q =>
      obtain ⟨ds', s2⟩ := q
      rw [e2] at h
      cases h
      exact ⟨d, s1, ds', rfl, e2, rfl⟩
theorem evLB_cons {env : Env} {e : Ir} {r : List Ir} {st st1 : Sst} {ds : List D} (h : evLB cf env (e :: r) st = some (ds, st1)) : ∃ d s1 ds', brw env e st (evI cf env e st) = some (d, s1) ∧ evLB cf env r s1 = some (ds', st1) ∧ ds = d :: ds' := by
  unfold evLB at h
  cases e1 : brw env e st (evI cf env e st) with
  | none => rw [e1] at h; cases h
  | some p =>
    obtain ⟨d, s1⟩ := p
    rw [e1] at h
    simp only at h
    cases e2 : evLB cf env r s1 with
    | none => rw [e2] at h; cases h
    | some q =>
      obtain ⟨ds', s2⟩ := q
      rw [e2] at h
      cases h
      exact ⟨d, s1, ds', rfl, e2, rfl⟩
theorem a_of : ∀ {es : List Expr} {is : List Ir}, Paired (fun e i => EOk C cf X e i ∧ nst e = true) es is → AOk C cf X es is
  | _, _, .nil => fun θ F H ow st σ env ds st1 Q ok en ev k => by
    cases ev
    exact sa pa_nil (k [] θ F H ow Stp.refl ok rfl)
  | _, _, .cons q r => fun θ F H ow st σ env ds st1 Q ok en ev k => by
    obtain ⟨d, s1, ds', e1, e2, rfl⟩ := evL_cons ev
    refine sa (pa_cons pe_sem pa_sem (star_cons q.2 _ _)) ?_
    refine q.1 θ F H ow st σ env d s1 _ ok en e1 fun v θ1 F1 H1 ow1 st1' o1 r1 => ?_
    refine a_of r θ1 F1 H1 ow1 s1 σ env ds' st1 _ o1 (en.stp st1') e2 fun vs θ2 F2 H2 ow2 st2' o2 r2 => ?_
    exact k (v :: vs) θ2 F2 H2 ow2 (st1'.trans o1 st2') o2 ⟨v, vs, rfl, R.mono st2'.leF st2'.th _ _ r1, r2⟩
theorem ab_of : ∀ {es : List Expr} {is : List Ir}, Paired (fun e i => BOk C cf X e i ∧ nst e = true) es is → ABOk C cf X es is
  | _, _, .nil => fun θ F H ow st σ env ds st1 Q ok en ev k => by
    cases ev
    exact sa pa_nil (k [] θ F H ow Stp.refl ok rfl)
  | _, _, .cons q r => fun θ F H ow st σ env ds st1 Q ok en ev k => by
    obtain ⟨d, s1, ds', e1, e2, rfl⟩ := evLB_cons ev
    refine sa (pa_cons pe_sem pa_sem (star_cons q.2 _ _)) ?_
    refine q.1 θ F H ow st σ env d s1 _ ok en e1 fun v θ1 F1 H1 ow1 st1' o1 r1 => ?_
    refine ab_of r θ1 F1 H1 ow1 s1 σ env ds' st1 _ o1 (en.stp st1') e2 fun vs θ2 F2 H2 ow2 st2' o2 r2 => ?_
    exact k (v :: vs) θ2 F2 H2 ow2 (st1'.trans o1 st2') o2 ⟨v, vs, rfl, RB.mono st2'.leN st2'.leF st2'.th r1, r2⟩
/-- an item of a display, maybe with a star -/
def Item (C : Ctx) (cf : CallF) (X : Cx) (e : Expr) (i : Bool × Ir) : Prop := (i.1 = false ∧ EOk C cf X e i.2 ∧ nst e = true) ∨ (i.1 = true ∧ ∃ e' p, e = .Starred e' p ∧ BOk C cf X e' i.2)
theorem as_of (hK : X.K = C.K) : ∀ {es : List Expr} {is : List (Bool × Ir)}, Paired (Item C cf X) es is → ASOk C cf X es is
  | _, _, .nil => fun θ F H ow st σ env ds st1 Q ok en ev k => by
    cases ev
    exact sa pa_nil (k [] θ F H ow Stp.refl ok rfl)
  | _, _, .cons (b := (b, i)) q r => fun θ F H ow st σ env ds st1 Q ok en ev k => by
    rcases q with ⟨hb, q, hn⟩ | ⟨hb, e', p, rfl, q⟩
    · cases (show b = false from hb)
      unfold evS at ev
      cases e1 : evI cf env i st with
      | none => rw [e1] at ev; cases ev
      | some pr =>
        obtain ⟨d, s1⟩ := pr
        rw [e1] at ev
        simp only at ev
        split at ev
        · rename_i ds' s2 e2
          cases ev
          refine sa (pa_cons pe_sem pa_sem (star_cons hn _ _)) ?_
          refine q θ F H ow st σ env d s1 _ ok en e1 fun v θ1 F1 H1 ow1 st1' o1 r1 => ?_
          refine as_of hK r θ1 F1 H1 ow1 s1 σ env ds' _ _ o1 (en.stp st1') e2 fun vs θ2 F2 H2 ow2 st2' o2 r2 => ?_
          exact k (v :: vs) θ2 F2 H2 ow2 (st1'.trans o1 st2') o2 ⟨v, vs, rfl, R.mono st2'.leF st2'.th _ _ r1, r2⟩
        · cases ev
    · cases (show b = true from hb)
      unfold evS at ev
      cases e1 : brw env i st (evI cf env i st) with
      | none => rw [e1] at ev; cases ev
      | some pr =>
        obtain ⟨d, s1⟩ := pr
        rw [e1] at ev
        simp only at ev
        split at ev
        · cases ev
        · rename_i xs ex
          split at ev
          · rename_i ds' s2 e2
            cases ev
            refine sa (StX.pa_star pe_sem pa_sem) ?_
            refine q θ F H ow st σ env d s1 _ ok en e1 fun v θ1 F1 H1 ow1 st1' o1 r1 => ?_
            have fin : ∀ p vs, v = .ref p → (SqT X.K H1 p vs ∨ SqL X.K H1 p vs) → Rs C θ1 F1 xs vs → ∃ p xs, v = V.ref p ∧ (SqT X.K H1 p xs ∨ SqL X.K H1 p xs) ∧ SemA X _ σ H1 fun ys H2 => Q (xs ++ ys) H2 := fun p vs e hs rr => by
              refine ⟨p, vs, e, hs, ?_⟩
              refine as_of hK r θ1 F1 H1 ow1 s1 σ env ds' _ _ o1 (en.stp st1') e2 fun ws θ2 F2 H2 ow2 st2' o2 r2 => ?_
              exact k (vs ++ ws) θ2 F2 H2 ow2 (st1'.trans o1 st2') o2 ((Rs.mono st2'.leF st2'.th _ _ rr).app r2)
            cases d with
            | lst ds0 =>
              cases ex
              obtain ⟨p, vs, e, hp, rr⟩ := r1
              exact fin p vs e (.inr (SqL.of (Hn_le.lst hp))) rr
            | tup ds0 =>
              cases ex
              obtain ⟨p, vs, e, hp, rr⟩ := r1
              exact fin p vs e (.inl (by rw [hK]; exact (o1.le).sqt hp)) rr
            | _ => cases ex
          · cases ev
/-! ### displays -/
theorem e_lst_del {es : List Expr} {is : List (Bool × Ir)} {pos : Pos} (h : ASOk C cf X es is) : ∀ θ F H ow st σ env d st1 Q, Hok θ F H ow st → EnvOk C θ F H ow σ env → evI cf env (.lst is) st = some (d, st1) →
      (∀ θ' F' H' ow', Stp θ F H ow θ' F' H' ow' → Hok θ' F' H' ow' st1 → Del C θ' F' d H' Q) → SemE X (.List es pos) σ H Q := by
  intro θ F H ow st σ env d st1 Q ok en ev k
  unfold evI at ev
  split at ev
  · rename_i ds s1 e1
    split at ev
    · rename_i hf
      cases ev
      refine se (pe_lst pa_sem) ?_
      exact h θ F H ow st σ env ds st1 _ ok en e1 fun vs θ1 F1 H1 ow1 s1 o1 r1 => ⟨by rw [r1.length]; exact fits_ok hf, fun p hp => k θ1 F1 H1 ow1 s1 o1 p vs hp r1⟩
    · cases ev
  · cases ev
theorem e_lst {es : List Expr} {is : List (Bool × Ir)} {pos : Pos} (h : ASOk C cf X es is) : TOk C cf X (.List es pos) (.lst is) := TOk.of_del rfl (e_lst_del h) rfl
theorem e_tup {es : List Expr} {is : List (Bool × Ir)} {kk : Nat} {pos : Pos} (h : ASOk C cf X es is) : EOk C cf X (.Tuple es kk pos) (.tup is) := by
  refine EOk.of_del fun θ F H ow st σ env d st1 Q ok en ev k => ?_
  unfold evI at ev
  split at ev
  · rename_i ds s1 e1
    split at ev
    · rename_i hf
      cases ev
      refine se (pe_tup pa_sem) ?_
      exact h θ F H ow st σ env ds st1 _ ok en e1 fun vs θ1 F1 H1 ow1 s1 o1 r1 => ⟨by rw [r1.length]; exact fits_ok hf, fun p hp => (k θ1 F1 H1 ow1 s1 o1).1 p vs hp r1⟩
    · cases ev
  · cases ev
theorem dctOf_ok {θ : Toks} {F : Hp} : ∀ {ks vs : List D} {acc kvs : List (D × D)} {ps : List (V × V)} {as : List (Key × V)}, dctOf acc ks vs = some kvs → Paired (fun p q => R C θ F p.1 q.1 ∧ R C θ F p.2 q.2) (ks.zip vs) ps → ks.length = vs.length → RK C θ F acc as →
    ∃ prs : List (Key × V), ps = prs.map (fun kv => (kV kv.1, kv.2)) ∧ RK C θ F kvs (mergeK as prs)
  | [], [], acc, kvs, ps, as, h, p, _, r => by
    cases h
    cases p
    exact ⟨[], rfl, r⟩
  | [], _ :: _, _, _, _, _, h, _, _, _ => by cases h
  | _ :: _, [], _, _, _, _, h, _, _, _ => by cases h
  | k :: ks, v :: vs, acc, kvs, ps, as, h, p, hl, r => by
    unfold dctOf at h
    split at h
    · rename_i hk
      obtain ⟨x, ek⟩ := keysK_key hk
      cases p with
      | cons q rest =>
        rename_i pq ps'
        obtain ⟨a, b⟩ := pq
        obtain ⟨prs, rfl, hr⟩ := dctOf_ok h rest (by simpa using hl) (RK.put ek q.2 r)
        have ea := key_kV ek q.1
        have ea : a = kV x := ea
        subst ea
        exact ⟨(x, b) :: prs, rfl, hr⟩
    · cases h
/-! ### calls -/
theorem pick_rs {θ : Toks} {F : Hp} {ds : List D} {vs : List V} (r : Rs C θ F ds vs) : ∀ {o : List Nat} {ps : List D}, pickA ds o = some ps → ∃ xs, pickA vs o = some xs ∧ Rs C θ F ps xs
  | [], ps, h => by cases h; exact ⟨[], rfl, rfl⟩
  | i :: o, ps, h => by
    unfold pickA at h
    cases e1 : ds[i]? with
    | none => rw [e1] at h; cases h
    | some d =>
      cases e2 : pickA ds o with
      | none => rw [e1, e2] at h; cases h
      | some q =>
        rw [e1, e2] at h
        cases h
        obtain ⟨v, ev, rv⟩ := r.get e1
        obtain ⟨xs, ex, rx⟩ := pick_rs r e2
        refine ⟨v :: xs, ?_, v, xs, rfl, rv, rx⟩
        unfold pickA
        rw [ev, ex]
theorem pick_vals {vs : List V} {us : List Value} (r : Vals vs us) : ∀ {o : List Nat} {xs : List V}, pickA vs o = some xs → ∃ ys, pickA us o = some ys ∧ Vals xs ys
  | [], ps, h => by cases h; exact ⟨[], rfl, .nil⟩
  | i :: o, ps, h => by
    unfold pickA at h
    cases e1 : vs[i]? with
    | none => rw [e1] at h; cases h
    | some d =>
      cases e2 : pickA vs o with
      | none => rw [e1, e2] at h; cases h
      | some q =>
        rw [e1, e2] at h
        cases h
        obtain ⟨v, ev, rv⟩ := r.get e1
        obtain ⟨xs, ex, rx⟩ := pick_vals r e2
        refine ⟨v :: xs, ?_, .cons rv rx⟩
        unfold pickA
        rw [ev, ex]
theorem pick_length {α : Type} {ds : List α} : ∀ {o : List Nat} {ps : List α}, pickA ds o = some ps → ps.length = o.length
  | [], ps, h => by cases h; rfl
  | i :: o, ps, h => by
    unfold pickA at h
    split at h
    · rename_i d q e1 e2
      cases h
      rw [List.length_cons, List.length_cons, pick_length e2]
    · cases h
theorem ord_length {n : Nat} {ks : List Str} : ∀ {i : Nat} {ps : List Str} {o : List Nat}, ordGo n ks i ps = some o → o.length = ps.length
  | i, [], o, h => by cases h; rfl
  | i, p :: ps, o, h => by
    unfold ordGo at h
    split at h
    · cases h
    · rename_i r e
      have ih := ord_length e
      split at h
      · cases h
        rw [List.length_cons, List.length_cons, ih]
      · split at h
        · cases h
          rw [List.length_cons, List.length_cons, ih]
        · cases h
theorem ordOf_length {ps : List Str} {sh : List (Nat × List Str)} {n : Nat} {ks : List Str} {o : List Nat} (h : ordOf ps sh n ks = some o) : o.length = ps.length := by
  unfold ordOf at h
  split at h
  · exact ord_length h
  · cases h
theorem call_sh {x : Str} {ps : List Str} {sh : List (Nat × List Str)} {f : Addr} (Fa : FAt C cf X x ps sh f) {n : Nat} {ks : List Str} {o : List Nat} (ho : ordOf ps sh n ks = some o) {pins : List (Addr × Obj)} {s : Shared} {σ : L2.St} {H : Hp} {vs zs xs : List V} {us ws : List Value} {Q : VK}
    (I : Inv X pins σ H s) (r : Vals vs us) (rz : Vals zs ws) (hn : vs.length = n) (hk : zs.length = ks.length) (hp : pickA (vs ++ zs) o = some xs) (h : rCall C cf (x, none) xs H Q) :
    wpAny (model X.prog X.w) X.A (call (.ref f) us (ks.zip ws)) (EP X pins σ Q) X.xe s := by
  obtain ⟨k, fd, Fn, hr, hb⟩ := Fa.ex
  obtain ⟨ys, ey, ry⟩ := pick_vals (r.append rz) hp
  have hl : xs.length = ps.length := by rw [pick_length hp, ordOf_length ho]
  refine wpAny_call (codeAny_mono (Fn.run X.A X.stack s H ⟨us, ks.zip ws⟩ ys xs Q (fun _ _ _ => False) hr I.env0 (hb n ks o ho s us ws ys I.kIn (by rw [← r.length]; exact hn) (by rw [← rz.length]; exact hk) ey) ry ⟨hl, h⟩) fun rs s' hq => ?_)
  cases rs with
  | error e => exact False.elim hq
  | ok fl =>
    cases fl with
    | ret u => exact I.after hq
    | next => exact False.elim hq
    | brk => exact False.elim hq
    | cont => exact False.elim hq
def SemK (X : Cx) (kws : List Keyword) : TA := fun σ H Q => ∀ (pos : Pos) (pins : List (Addr × Obj)) (s : Shared), Inv X pins σ H s → wpAny (model X.prog X.w) X.A (evalAll ((backToKw pos (keywordEach kws X.env)).map (·.2))) (AP X pins σ Q) X.xe s
theorem pk_sem {kws : List Keyword} : PK X kws (SemK X kws) := ⟨fun pos pins s _ _ _ I h => h pos pins s I⟩
theorem sk {kws : List Keyword} {t : TA} (h : PK X kws t) {σ : L2.St} {H : Hp} {Q : List V → Hp → Prop} (q : t σ H Q) : SemK X kws σ H Q := fun pos pins s I => h.run pos pins s σ H Q I q
def KOk (C : Ctx) (cf : CallF) (X : Cx) (kws : List Keyword) (is : List Ir) : Prop := ∀ θ F H ow st σ env ds st1 Q, Hok θ F H ow st → EnvOk C θ F H ow σ env → evL cf env is st = some (ds, st1) →
  (∀ vs θ' F' H' ow', Stp θ F H ow θ' F' H' ow' → Hok θ' F' H' ow' st1 → Rs C θ' F' ds vs → Q vs H') → SemK X kws σ H Q
theorem k_of : ∀ {kws : List Keyword} {is : List Ir}, Paired (fun (k : Keyword) i => EOk C cf X k.value i) kws is → KOk C cf X kws is
  | _, _, .nil => fun θ F H ow st σ env ds st1 Q ok en ev k => by
    cases ev
    exact sk pk_nil (k [] θ F H ow Stp.refl ok rfl)
  | _, _, .cons (a := ⟨nm, e, kp⟩) q r => fun θ F H ow st σ env ds st1 Q ok en ev k => by
    obtain ⟨d, s1, ds', e1, e2, rfl⟩ := evL_cons ev
    refine sk (pk_cons pe_sem pk_sem) ?_
    refine q θ F H ow st σ env d s1 _ ok en e1 fun v θ1 F1 H1 ow1 st1' o1 r1 => ?_
    refine k_of r θ1 F1 H1 ow1 s1 σ env ds' st1 _ o1 (en.stp st1') e2 fun vs θ2 F2 H2 ow2 st2' o2 r2 => ?_
    exact k (v :: vs) θ2 F2 H2 ow2 (st1'.trans o1 st2') o2 ⟨v, vs, rfl, R.mono st2'.leF st2'.th _ _ r1, r2⟩
theorem evL_app : ∀ {as bs : List Ir} {env : Env} {st st1 : Sst} {ds : List D}, evL cf env (as ++ bs) st = some (ds, st1) → ∃ d1 s1 d2, evL cf env as st = some (d1, s1) ∧ evL cf env bs s1 = some (d2, st1) ∧ ds = d1 ++ d2
  | [], bs, env, st, st1, ds, h => ⟨[], st, ds, rfl, h, rfl⟩
  | a :: as, bs, env, st, st1, ds, h => by
    obtain ⟨d, s1, ds', e1, e2, rfl⟩ := evL_cons h
    obtain ⟨d1, s2, d2, e3, e4, rfl⟩ := evL_app e2
    refine ⟨d :: d1, s2, d2, ?_, e4, rfl⟩
    unfold evL
    rw [e1]
    simp only
    rw [e3]
theorem evL_length : ∀ {as : List Ir} {env : Env} {st st1 : Sst} {ds : List D}, evL cf env as st = some (ds, st1) → ds.length = as.length
  | [], env, st, st1, ds, h => by cases h; rfl
  | a :: as, env, st, st1, ds, h => by
    obtain ⟨d, s1, ds', e1, e2, rfl⟩ := evL_cons h
    rw [List.length_cons, List.length_cons, evL_length e2]
/-- the keywords, named -/
theorem kw_facts : ∀ {kws : List Keyword} {ks : List Str}, kwN kws = some ks → ∀ (pos : Pos) (env : PySem.Env), (backToKw pos (keywordEach kws env)).all (·.1.isSome) = true ∧ (backToKw pos (keywordEach kws env)).filterMap (·.1) = ks ∧ (backToKw pos (keywordEach kws env)).any (·.1.isNone) = false ∧ ks.length = kws.length
  | [], ks, h, pos, env => by cases h; exact ⟨rfl, rfl, rfl, rfl⟩
  | ⟨nm, e, kp⟩ :: kws, ks, h, pos, env => by
    unfold kwN mapO at h
    cases nm with
    | none => cases h
    | some nm =>
      cases e2 : mapO (fun k : Keyword => k.arg) kws with
      | none => rw [e2] at h; cases h
      | some bs =>
        rw [e2] at h
        cases h
        obtain ⟨h1, h2, h3, h4⟩ := kw_facts (kws := kws) (ks := bs) e2 pos env
        refine ⟨?_, ?_, ?_, ?_⟩
        · show (true && (backToKw pos (keywordEach kws env)).all (·.1.isSome)) = true
          rw [h1]; rfl
        · show nm :: (backToKw pos (keywordEach kws env)).filterMap (·.1) = nm :: bs
          rw [h2]
        · show (false || (backToKw pos (keywordEach kws env)).any (·.1.isNone)) = false
          rw [h3]; rfl
        · rw [List.length_cons, List.length_cons, h4]
theorem ResT.back {θ : Toks} {F H H0 H1 : Hp} {ow : OwF} (h : ∀ a, H1 a = none → H0 a = none) {t : T} {v : V} (r : ResT C θ F H ow H1 t v) : ResT C θ F H ow H0 t v := by
  cases t with
  | fz d => exact r
  | ol ds => obtain ⟨a, vs, e, h0, x⟩ := r; exact ⟨a, vs, e, h a h0, x⟩
  | od ds => obtain ⟨a, vs, e, h0, x⟩ := r; exact ⟨a, vs, e, h a h0, x⟩
  | oo c ds => obtain ⟨a, dx, vs, e, h0, x⟩ := r; exact ⟨a, dx, vs, e, h a h0, x⟩
theorem Stp.none {θ θ' : Toks} {F F' H H' : Hp} {ow ow' : OwF} {st : Sst} (s : Stp θ F H ow θ' F' H' ow') (o : Hok θ' F' H' ow' st) : ∀ a, H' a = none → H a = none := fun a h => by
  cases e : H a with
  | none => rfl
  | some u =>
    obtain ⟨u', e'⟩ := s.live o e
    rw [h] at e'
    cases e'
theorem callTop_inv {g : Str} {as : List Ir} {ord : List Nat} {env : Env} {st st1 : Sst} {t : T} (h : evTop cf env (.call g as ord) st = some (t, st1)) : ∃ ds s1 ps, evL cf env as st = some (ds, s1) ∧ pickA ds ord = some ps ∧ cf (g, none) ps s1 = some (t, st1) := by
  change (match evL cf env as st with
      | none => none
      | some (ds, st1) => match pickA ds ord with
        | none => none
        | some ps => cf (g, none) ps st1) = some (t, st1) at h
  cases e1 : evL cf env as st with
  | none => rw [e1] at h; cases h
  | some p =>
    obtain ⟨ds, s1⟩ := p
    rw [e1] at h
    simp only at h
    cases e2 : pickA ds ord with
    | none => rw [e2] at h; cases h
    | some ps =>
      rw [e2] at h
      exact ⟨ds, s1, ps, rfl, e2, h⟩
theorem e_call {x : Str} {ps : List Str} {sh : List (Nat × List Str)} {f : Addr} (Fa : FAt C cf X x ps sh f) {as : List Expr} {kws : List Keyword} {ia ik : List Ir} {ks : List Str} {o : List Nat} {p pos : Pos} (hg : Gl X x) (hd : (x == ("__debug__" : Str)) = false)
    (hA : AOk C cf X as ia) (hL : as.length = ia.length) (hs : ∀ e ∈ as, nst e = true) (hKw : KOk C cf X kws ik) (hKl : kws.length = ik.length) (hks : kwN kws = some ks) (ho : ordOf ps sh ia.length ks = some o) : TOk C cf X (.Call (.Name x p) as kws pos) (.call x (ia ++ ik) o) := by
  intro θ F H ow st σ env t st1 Q ok en ev k
  obtain ⟨ds, s1, qs, e1, e2, e3⟩ := callTop_inv ev
  obtain ⟨d1, s2, d2, e4, e5, rfl⟩ := evL_app e1
  obtain ⟨h1, h2, h3, h4⟩ := kw_facts hks pos X.env
  intro pins s I
  refine wpAny_Call_Name_kw (ld_glob I hg Fa.mg ?_ hd)
  have fin : ∀ (θ1 : Toks) (F1 H1 : Hp) (ow1 : OwF) (vs : List V) (us : List Value) (s3 : Shared), Stp θ F H ow θ1 F1 H1 ow1 → Hok θ1 F1 H1 ow1 s2 → Rs C θ1 F1 d1 vs → Inv X pins σ H1 s3 → Vals vs us →
      wpAny (model X.prog X.w) X.A (evalAll ((backToKw pos (keywordEach kws X.env)).map (·.2))) (fun ks' s₂ => X.K.In s₂.heap ∧ wpAny (model X.prog X.w) X.A (call (.ref f) us (((backToKw pos (keywordEach kws X.env)).filterMap (·.1)).zip ks')) (EP X pins σ Q) X.xe s₂) X.xe s3 := by
    intro θ1 F1 H1 ow1 vs us s3 t1 o1 r1 I1 rv
    refine thn (hKw θ1 F1 H1 ow1 s2 σ env d2 s1 (fun zs H2 => ∃ xs, vs.length = ia.length ∧ zs.length = ks.length ∧ pickA (vs ++ zs) o = some xs ∧ rCall C cf (x, none) xs H2 Q) o1 (en.stp t1) e5 (fun zs θ2 F2 H2 ow2 t2 o2 r2 => ?_) pos pins s3 I1) fun ws s4 ⟨zs, H2, I2, rz, q⟩ => ?_
    · have rr := (Rs.mono t2.leF t2.th _ _ r1).app r2
      obtain ⟨xs, ex, rx⟩ := pick_rs rr e2
      refine ⟨xs, by rw [r1.length, evL_length e4], by rw [r2.length, evL_length e5, h4, hKl], ex, θ2, F2, ow2, s1, qs, t, st1, o2, rx, e3, fun v θ3 F3 H3 ow3 t3 o3 r3 => ?_⟩
      have tt := t1.trans o1 t2
      exact k v θ3 F3 H3 ow3 (tt.trans o2 t3) o3 (r3.back (tt.none o2))
    · obtain ⟨xs, l1, l2, ex, q⟩ := q
      rw [h2]
      exact ⟨I2.kIn, call_sh Fa ho I2 rv rz l1 l2 ex q⟩
  cases as with
  | nil =>
    refine PySem.W.callWith_KW0 (h₀ := X.base) I.ok.mod.kin Fa.kp h1 ?_ (by show (false || _) = false; rw [h3]; rfl)
    cases ia with
    | cons _ _ => cases hL
    | nil =>
      cases (show some (([] : List D), st) = some (d1, s2) from e4)
      exact fin θ F H ow [] [] s Stp.refl ok rfl I .nil
  | cons e es =>
    refine PySem.W.callWith_KW (h₀ := X.base) I.ok.mod.kin Fa.kp h1 ?_ (by rw [h3, star_any hs]; rfl) (star_cons (hs e List.mem_cons_self) es X.env)
    refine thn (hA θ F H ow st σ env d1 s2 (fun vs H1 => ∃ θ1 F1 ow1, Stp θ F H ow θ1 F1 H1 ow1 ∧ Hok θ1 F1 H1 ow1 s2 ∧ Rs C θ1 F1 d1 vs) ok en e4 (fun vs θ1 F1 H1 ow1 t1 o1 r1 => ⟨θ1, F1, ow1, t1, o1, r1⟩) pos pins s I) fun us s3 ⟨vs, H1, I1, rv, θ1, F1, ow1, t1, o1, r1⟩ => ?_
    exact fin θ1 F1 H1 ow1 vs us s3 t1 o1 r1 I1 rv
end
end Ev
/-! EvX5 -/
namespace Ev
open PySem PySem.Spec PyProof.Rows L2
section
variable {C : Ctx} {cf : CallF} {X : Cx}
/-! ### own classes -/
theorem new_inv {g : Str} {as : List Ir} {env : Env} {st st1 : Sst} {d : D} (h : evI cf env (.new g as) st = some (d, st1)) : ∃ ds s1 t, evL cf env as st = some (ds, s1) ∧ cf (g, some "__init__") ds s1 = some (t, st1) ∧ d = t.er := by
  unfold evI at h
  cases e1 : evL cf env as st with
  | none => rw [e1] at h; cases h
  | some p =>
    obtain ⟨ds, s1⟩ := p
    rw [e1] at h
    simp only at h
    split at h
    · rename_i t st2 e3
      cases h
      exact ⟨ds, s1, t, rfl, e3, rfl⟩
    · cases h
theorem new_run {c : Str} {ps : List Str} (M : MAt C cf X c ps) {pins : List (Addr × Obj)} {s : Shared} {σ : L2.St} {H F : Hp} {θ : Toks} {ow : OwF} {st st1 : Sst} {vs : List V} {us : List Value} {as : List D} {t : T} {Q : VK}
    (I : Inv X pins σ H s) (r : Vals vs us) (hl : vs.length = ps.length) (ok : Hok θ F H ow st) (ra : Rs C θ F as vs) (e : cf (c, some "__init__") as st = some (t, st1))
    (k : ∀ v θ' F' H' ow', Stp θ F H ow θ' F' H' ow' → Hok θ' F' H' ow' st1 → ResT C θ' F' H' ow' H t v → Q v H') : wpAny (model X.prog X.w) X.A (call (.ref (C.cls c)) us) (EP X pins σ Q) X.xe s := by
  obtain ⟨kk, f, fd, sl, Fn, hr, Mk, hb⟩ := M.ex
  refine run_make (dvs := []) (ds := []) (E := fun _ _ _ => False) Mk Fn hr hb .nil (fun _ _ _ _ _ _ _ h => h.elim) I r fun x dx hx hdx hne => ?_
  rw [List.append_nil]
  refine ⟨by rw [List.length_cons, hl], x, dx, H, vs, θ, F, ow, st, as, t, st1, rfl, hx, hdx, hne, rfl, ok, ra, e, fun θ' F' H' ow' s' o' r' => ⟨rfl, k _ θ' F' H' ow' s' o' r'⟩⟩
theorem e_new {c : Str} {ps : List Str} (M : MAt C cf X c ps) {as : List Expr} {ia : List Ir} {p pos : Pos} (hg : Gl X c) (hd : (c == ("__debug__" : Str)) = false)
    (hA : AOk C cf X as ia) (hL : as.length = ia.length) (hs : ∀ e ∈ as, nst e = true) (ho : ia.length = ps.length) : EOk C cf X (.Call (.Name c p) as [] pos) (.new c ia) := by
  intro θ F H ow st σ env d st1 Q ok en ev k
  obtain ⟨ds, s1, t, e1, e3, rfl⟩ := new_inv ev
  have fin : ∀ (θ1 : Toks) (F1 H1 : Hp) (ow1 : OwF) (vs : List V) (us : List Value) (s3 : Shared) (pins : List (Addr × Obj)), Stp θ F H ow θ1 F1 H1 ow1 → Hok θ1 F1 H1 ow1 s1 → Rs C θ1 F1 ds vs → Inv X pins σ H1 s3 → Vals vs us →
      wpAny (model X.prog X.w) X.A (call (.ref (C.cls c)) us) (EP X pins σ Q) X.xe s3 := by
    intro θ1 F1 H1 ow1 vs us s3 pins t1 o1 r1 I1 rv
    have hl : vs.length = ps.length := by rw [r1.length, evL_length e1, ho]
    refine new_run M I1 rv hl o1 r1 e3 fun v θ' F' H' ow' s' o' r' => ?_
    have tt := t1.trans o1 s'
    obtain ⟨F2, t2, o2, r2⟩ := res_fz o' tt (r'.back (t1.none o1))
    exact k v θ' F2 H' ow' t2 o2 r2
  intro pins s I
  refine wpAny_Call_Name_kw (ld_glob I hg M.mg ?_ hd)
  obtain ⟨kk, f, fd, sl, Fn, hr, Mk, hb⟩ := M.ex
  cases as with
  | nil =>
    cases ia with
    | cons _ _ => cases hL
    | nil =>
      cases (show some (([] : List D), st) = some (ds, s1) from e1)
      exact PySem.W.callWith_K0 I.kIn Mk.kp (fin θ F H ow [] [] s pins Stp.refl ok rfl I .nil)
  | cons e es =>
    refine PySem.W.callWith_K (h₀ := X.base) I.ok.mod.kin Mk.kp ?_ (star_cons (hs e List.mem_cons_self) es X.env) (star_any (fun x hx => hs x (List.mem_cons_of_mem _ hx)) pos X.env)
    refine thn (hA θ F H ow st σ env ds s1 (fun vs H1 => ∃ θ1 F1 ow1, Stp θ F H ow θ1 F1 H1 ow1 ∧ Hok θ1 F1 H1 ow1 s1 ∧ Rs C θ1 F1 ds vs) ok en e1 (fun vs θ1 F1 H1 ow1 t1 o1 r1 => ⟨θ1, F1, ow1, t1, o1, r1⟩) pos pins s I) fun us s3 ⟨vs, H1, I1, rv, θ1, F1, ow1, t1, o1, r1⟩ => ⟨I1.kIn, ?_⟩
    exact fin θ1 F1 H1 ow1 vs us s3 pins t1 o1 r1 I1 rv
end
end Ev
/-! EvX6 -/
namespace Ev
open PySem PySem.Spec PyProof.Rows L2
section
variable {C : Ctx} {cf : CallF} {X : Cx}
theorem gl_of {x : Str} (h : glB X.env.scope x = true) : Gl X x := by
  unfold glB at h
  split at h
  · rename_i e
    exact e
  · cases h
theorem okN_d {x : Str} (h : okN x = true) : (x == ("__debug__" : Str)) = false ∧ x ≠ "__name__" := by
  unfold okN at h
  simp only [Bool.and_eq_true, Bool.not_eq_true'] at h
  exact ⟨h.1.1.1, by simpa using h.1.2⟩
theorem lookup_mem' {α : Type} : ∀ {l : List (Str × α)} {x : Str} {a : α}, l.lookup x = some a → (x, a) ∈ l
  | (k, v) :: r, x, a, h => by
    rw [List.lookup_cons] at h
    cases hb : x == k with
    | true =>
      rw [hb] at h
      cases h
      rw [eq_of_beq hb]
      exact List.mem_cons_self
    | false =>
      rw [hb] at h
      exact List.mem_cons_of_mem _ (lookup_mem' h)
/-! ### builtins -/
theorem bi_inv {b : Bi} {as : List Ir} {env : Env} {st st1 : Sst} {d : D} (h : evI cf env (.bi b as) st = some (d, st1)) : ∃ ds, evLB cf env as st = some (ds, st1) ∧ biD b ds = some d := by
  unfold evI at h
  cases e1 : evLB cf env as st with
  | none => rw [e1] at h; cases h
  | some p =>
    obtain ⟨ds, s1⟩ := p
    rw [e1] at h
    simp only at h
    split at h
    · rename_i d' e2
      cases h
      exact ⟨ds, rfl, e2⟩
    · cases h
theorem biD_nil (b : Bi) : biD b [] = none := by cases b <;> rfl
theorem bi_boot {x : Str} {b : Bi} (h : bis.lookup x = some b) : bootBuiltins x = some (biV b) ∧ x ∈ bltN ∧ ((∃ id, biV b = .builtin id) ∨ ∃ T, biV b = .type T) := by
  have h := lookup_mem' h
  simp only [bis, List.mem_cons, Prod.mk.injEq, List.not_mem_nil, or_false] at h
  rcases h with ⟨rfl, rfl⟩ | ⟨rfl, rfl⟩ | ⟨rfl, rfl⟩ | ⟨rfl, rfl⟩ | ⟨rfl, rfl⟩ | ⟨rfl, rfl⟩ | ⟨rfl, rfl⟩ | ⟨rfl, rfl⟩ | ⟨rfl, rfl⟩ | ⟨rfl, rfl⟩ | ⟨rfl, rfl⟩ <;>
    exact ⟨by decide +kernel, by decide, by first | exact .inl ⟨_, rfl⟩ | exact .inr ⟨_, rfl⟩⟩
theorem e_bi_del (hK : X.K = C.K) (hc : X.calm = true) (hu : X.A.units + 200 < cLine) {x : Str} {b : Bi} {as : List Expr} {ia : List Ir} {p pos : Pos} (hg : Gl X x) (ho : okN x = true) (hb : bis.lookup x = some b) (hm : ∀ x ∈ bltN, X.mg x = none)
    (hA : ABOk C cf X as ia) (hL : as.length = ia.length) (hs : ∀ e ∈ as, nst e = true) : ∀ θ F H ow st σ env d st1 Q, Hok θ F H ow st → EnvOk C θ F H ow σ env → evI cf env (.bi b ia) st = some (d, st1) →
      (∀ θ' F' H' ow', Stp θ F H ow θ' F' H' ow' → Hok θ' F' H' ow' st1 → Del C θ' F' d H' Q) → SemE X (.Call (.Name x p) as [] pos) σ H Q := by
  intro θ F H ow st σ env d st1 Q ok en ev k
  obtain ⟨ds, e1, e2⟩ := bi_inv ev
  obtain ⟨h1, h2, h3⟩ := bi_boot hb
  obtain ⟨hd, hn⟩ := okN_d ho
  have main : SemA X as σ H (fun vs H1 => rBi C b vs H1 Q) := hA θ F H ow st σ env ds st1 _ ok en e1 fun vs θ1 F1 H1 ow1 t1 o1 r1 => ⟨θ1, F1, Hn ow1 H1, ds, d, o1.leN, Hn_le, r1, e2, k θ1 F1 H1 ow1 t1 o1⟩
  have cr := cr_bi (C := C) hK hc hu b
  cases as with
  | nil =>
    cases ia with
    | cons _ _ => cases hL
    | nil =>
      cases (show some (([] : List D), st) = some (ds, st1) from e1)
      rw [biD_nil] at e2
      cases e2
  | cons e es =>
    rcases h3 with ⟨id, ev⟩ | ⟨T, ev⟩
    · rw [ev] at h1 cr
      exact se (pe_callB cr hg (hm x h2) h1 pa_sem hn hd (star_cons (hs e List.mem_cons_self) es X.env) (star_any (fun x hx => hs x (List.mem_cons_of_mem _ hx)) pos X.env)) main
    · rw [ev] at h1 cr
      exact se (pe_callTy cr hg (hm x h2) h1 pa_sem hn hd (star_cons (hs e List.mem_cons_self) es X.env) (star_any (fun x hx => hs x (List.mem_cons_of_mem _ hx)) pos X.env)) main
theorem e_bi (hK : X.K = C.K) (hc : X.calm = true) (hu : X.A.units + 200 < cLine) {x : Str} {b : Bi} {as : List Expr} {ia : List Ir} {p pos : Pos} (hg : Gl X x) (ho : okN x = true) (hb : bis.lookup x = some b) (hm : ∀ x ∈ bltN, X.mg x = none)
    (hA : ABOk C cf X as ia) (hL : as.length = ia.length) (hs : ∀ e ∈ as, nst e = true) : TOk C cf X (.Call (.Name x p) as [] pos) (.bi b ia) := by
  have D := e_bi_del (pos := pos) (p := p) hK hc hu hg ho hb hm hA hL hs
  cases hf : freshB (.bi b ia) with
  | true => exact TOk.of_del rfl D hf
  | false => exact (EOk.of_del D).t rfl hf
/-! ### isinstance -/
def rIs1 (C : Ctx) (cs ts : List Str) : List V → Hp → VK → Prop := fun xs H Q => ∃ θ F G d v b, Le F G ∧ Le G H ∧ RB C θ F G d v ∧ isiAny cs d ts = some b ∧ Q (.bl b) H ∧
  ((∃ t c w, ts = [t] ∧ xs = [v, c] ∧ ClsV c w ∧ TyNm C cs t w) ∨ ∃ tp vs ws, xs = [v, .ref tp] ∧ H tp = some (.tup vs) ∧ Paired ClsV vs ws ∧ Paired (TyNm C cs) ts ws ∧ ts ≠ [])
theorem cr_isi (hK : X.K = C.K) {cs ts : List Str} (ce : ClsEnv C cs) : CallR X (.builtin "isinstance") (rIs1 C cs ts) := by
  intro pins s σ H xs us Q I r h
  obtain ⟨θ, F, G, d, v, b, l1, l2, ra, e, q, h⟩ := h
  rcases h with ⟨t, c, w, rfl, rfl, kc, ty⟩ | ⟨tp, vs, ws, rfl, hT, kc, ty, ne⟩
  · have e1 : isiD cs d t = some b := by
      change (match isiD cs d t with
        | some true => some true
        | some false => isiAny cs d []
        | none => none) = some b at e
      cases e2 : isiD cs d t with
      | none => rw [e2] at e; cases e
      | some z => rw [e2] at e; cases z <;> exact e
    refine call_isi pins s σ H [v, c] us Q I r ⟨v, c, tyOfD C d, w, b, rfl, kc, ?_, ?_, q⟩
    · rw [hK]; exact tyX_of ce l1 l2 ra e1
    · rw [hK]; exact isi_one ce ty e1
  · refine call_isiT pins s σ H [v, .ref tp] us Q I r ⟨v, tp, vs, tyOfD C d, ws, b, rfl, hT, kc, ?_, ?_, q⟩
    · rw [hK]
      cases ts with
      | nil => exact absurd rfl ne
      | cons t ts =>
        change (match isiD cs d t with
          | some true => some true
          | some false => isiAny cs d ts
          | none => none) = some b at e
        cases e2 : isiD cs d t with
        | none => rw [e2] at e; cases e
        | some z => exact tyX_of ce l1 l2 ra e2
    · rw [hK]; exact isi_any ce ty e
theorem isi_inv {a : Ir} {ts cs : List Str} {env : Env} {st st1 : Sst} {d : D} (h : evI cf env (.isi a ts cs) st = some (d, st1)) : ∃ x b, brw env a st (evI cf env a st) = some (x, st1) ∧ isiAny cs x ts = some b ∧ d = .bl b := by
  obtain ⟨x, s1, e1, e2⟩ := brw1 (f := fun x st1 => match isiAny cs x ts with
      | some b => some (D.bl b, st1)
      | none => none) h
  cases e3 : isiAny cs x ts with
  | none => simp only [e3] at e2; cases e2
  | some b =>
    simp only [e3] at e2
    cases e2
    exact ⟨x, b, e1, e3, rfl⟩
theorem ty_boot {t : Str} (h : tys.contains t = true) : ∃ n : String, n ∈ sTys ∧ t = Str.ofString n ∧ bootBuiltins t = some (.type n) ∧ t ∈ bltN ∧ okN t = true := by
  have h : t ∈ tys := by simpa using h
  simp only [tys, List.mem_cons, List.not_mem_nil, or_false] at h
  rcases h with rfl | rfl | rfl | rfl | rfl | rfl
  · exact ⟨"list", by decide, rfl, by decide +kernel, by decide, by decide +kernel⟩
  · exact ⟨"tuple", by decide, rfl, by decide +kernel, by decide, by decide +kernel⟩
  · exact ⟨"int", by decide, rfl, by decide +kernel, by decide, by decide +kernel⟩
  · exact ⟨"bool", by decide, rfl, by decide +kernel, by decide, by decide +kernel⟩
  · exact ⟨"str", by decide, rfl, by decide +kernel, by decide, by decide +kernel⟩
  · exact ⟨"dict", by decide, rfl, by decide +kernel, by decide, by decide +kernel⟩
theorem e_isi1 (hK : X.K = C.K) {cs : List Str} (ce : ClsEnv C cs) {a : Expr} {t : Str} {ia : Ir} {p p2 pos : Pos} (hg : Gl X "isinstance") (hm : ∀ x ∈ bltN, X.mg x = none) (ha : BOk C cf X a ia) (hs : nst a = true)
    (hgt : Gl X t) (ht : tys.contains t = true ∨ (t ∈ cs ∧ X.mg t = some (.ref (C.cls t)) ∧ (t == ("__debug__" : Str)) = false ∧ tys.contains t = false)) : EOk C cf X (.Call (.Name "isinstance" p) [a, .Name t p2] [] pos) (.isi ia [t] cs) := by
  intro θ F H ow st σ env d st1 Q ok en ev k
  obtain ⟨x, b, e1, e2, rfl⟩ := isi_inv ev
  have P : ∃ (c : V) (w : Value), PE X (.Name t p2) (tC c) ∧ ClsV c w ∧ TyNm C cs t w := by
    rcases ht with ht | ⟨ht, hmg, hd, hne⟩
    · obtain ⟨n, h1, rfl, h3, h4, h5⟩ := ty_boot ht
      obtain ⟨hd, hn⟩ := okN_d h5
      exact ⟨.ty n, .type n, pe_bltn hgt (hm _ h4) h3 rfl hn hd, .ty n, .b n h1⟩
    · refine ⟨.ref (C.cls t), .ref (C.cls t), pe_glob hgt hmg rfl hd, .own _, .c t ht fun n hn => ?_⟩
      have key : ∀ n ∈ sTys, tys.contains (Str.ofString n) = true := by decide +kernel
      cases hb : t == Str.ofString n with
      | false => rfl
      | true =>
        rw [eq_of_beq hb] at hne
        rw [key n hn] at hne
        cases hne
  obtain ⟨c, w, P, kc, kt⟩ := P
  refine se (pe_callB (cr_isi (ts := [t]) hK ce) hg (hm _ (by decide)) (by decide +kernel) (pa_cons pe_sem (pa_cons P pa_nil rfl) (star_cons hs _ _)) (by decide) (by decide) (star_cons hs _ _) rfl) ?_
  refine ha θ F H ow st σ env x st1 _ ok en e1 fun v θ1 F1 H1 ow1 t1 o1 r1 => ?_
  exact ⟨θ1, F1, Hn ow1 H1, x, v, b, o1.leN, Hn_le, r1, e2, k _ θ1 F1 H1 ow1 t1 o1 rfl, .inl ⟨t, c, w, rfl, rfl, kc, kt⟩⟩
/-- the names of a tuple of built-in types -/
theorem ty_names (cs : List Str) (hm : ∀ x ∈ bltN, X.mg x = none) : ∀ {es : List Expr} {us : List Str}, mapO (tyN X.env.scope) es = some us →
    ∃ (t : TA) (vs : List V) (ws : List Value), PA X es t ∧ (∀ σ H Q, Q vs H → t σ H Q) ∧ Paired ClsV vs ws ∧ Paired (TyNm C cs) us ws
  | [], us, h => by
    cases h
    exact ⟨tNil, [], [], pa_nil, fun _ _ _ q => q, .nil, .nil⟩
  | e :: es, us, h => by
    unfold mapO at h
    split at h
    · rename_i b bs e1 e2
      cases h
      obtain ⟨t, vs, ws, P, hq, k1, k2⟩ := ty_names cs hm e2
      cases e with
      | Name y p =>
        have e1 : (if (glB X.env.scope y && tys.contains y) = true then some y else none) = some b := e1
        split at e1
        · rename_i hc
          cases e1
          have hc := Bool.and_eq_true_iff.mp hc
          obtain ⟨n, h1, rfl, h3, h4, h5⟩ := ty_boot hc.2
          obtain ⟨hd, hn⟩ := okN_d h5
          exact ⟨tCons (tC (.ty n)) t, .ty n :: vs, .type n :: ws, pa_cons (pe_bltn (gl_of hc.1) (hm _ h4) h3 rfl hn hd) P rfl, fun σ H Q q => hq σ H _ q, .cons (.ty n) k1, .cons (.b n h1) k2⟩
        · cases e1
      | _ => cases e1
    · cases h
theorem e_isiT (hK : X.K = C.K) {cs : List Str} (ce : ClsEnv C cs) {a : Expr} {es : List Expr} {us : List Str} {ia : Ir} {kk : Nat} {p p2 pos : Pos} (hg : Gl X "isinstance") (hm : ∀ x ∈ bltN, X.mg x = none) (ha : BOk C cf X a ia) (hs : nst a = true)
    (hu : mapO (tyN X.env.scope) es = some us) (hl : 1 ≤ us.length) (hz : us.length ≤ 100) : EOk C cf X (.Call (.Name "isinstance" p) [a, .Tuple es kk p2] [] pos) (.isi ia us cs) := by
  intro θ F H ow st σ env d st1 Q ok en ev k
  obtain ⟨x, b, e1, e2, rfl⟩ := isi_inv ev
  obtain ⟨t, vs, ws, P, hq, k1, k2⟩ := ty_names (C := C) cs hm hu
  refine se (pe_callB (cr_isi (ts := us) hK ce) hg (hm _ (by decide)) (by decide +kernel) (pa_cons pe_sem (pa_cons (pe_tup P) pa_nil rfl) (star_cons hs _ _)) (by decide) (by decide) (star_cons hs _ _) rfl) ?_
  refine ha θ F H ow st σ env x st1 _ ok en e1 fun v θ1 F1 H1 ow1 t1 o1 r1 => ?_
  refine hq σ H1 _ ⟨?_, fun tp htp => ?_⟩
  · have l1 := paired_length k1
    have l2 := paired_length k2
    rw [sizeLine_eq]
    omega
  · obtain ⟨o2, t2⟩ := o1.frozen (o := .tup vs) htp
    refine ⟨θ1, _, _, x, v, b, o2.leN, Hn_le, RB.mono t2.leN t2.leF t2.th r1, e2, k _ θ1 _ _ ow1 (t1.trans o1 t2) o2 rfl, .inr ⟨tp, vs, ws, rfl, upd_same, k1, k2, fun h => ?_⟩⟩
    rw [h] at hl
    exact absurd hl (by decide)
/-! ### join -/
theorem e_join {o a : Expr} {io ia : Ir} {apos pos : Pos} (ho : EOk C cf X o io) (ha : BOk C cf X a ia) (hn : nsup o = true) (hs : nst a = true) (hl : (apos.endLine == pos.line) = true) : EOk C cf X (.Call (.Attribute o "join" apos) [a] [] pos) (.join io ia) := by
  intro θ F H ow st σ env d st1 Q ok en ev k
  unfold evI at ev
  cases e1 : evI cf env io st with
  | none => rw [e1] at ev; cases ev
  | some p =>
    obtain ⟨x, s1⟩ := p
    rw [e1] at ev
    simp only at ev
    cases e2 : brw env ia s1 (evI cf env ia s1) with
    | none => rw [e2] at ev; cases ev
    | some p =>
      obtain ⟨y, s2⟩ := p
      rw [e2] at ev
      simp only at ev
      cases e3 : joinD x y with
      | none => rw [e3] at ev; cases ev
      | some z =>
        rw [e3] at ev
        cases ev
        refine se (pe_m1 PySem.F.slot_str_join PySem.F.type_str_join (mt_joinD (C := C)) pe_sem pe_sem (star_cons hs [] X.env) (att_base hn _ X.env) hl) ?_
        refine ho θ F H ow st σ env x s1 _ ok en e1 fun v θ1 F1 H1 ow1 t1 o1 r1 => ⟨?_, ?_⟩
        · cases x with
          | str w => exact ⟨w, r1⟩
          | _ => cases e3
        · refine ha θ1 F1 H1 ow1 s1 σ env y _ _ o1 (en.stp t1) e2 fun w θ2 F2 H2 ow2 t2 o2 r2 => ?_
          exact ⟨θ2, F2, Hn ow2 H2, x, y, w, o2.leN, Hn_le, RB.of o2.leN (R.mono t2.leF t2.th _ _ r1), rfl, r2, _, e3, fun u ru => k u θ2 F2 H2 ow2 (t1.trans o1 t2) o2 ru⟩
end
end Ev
/-! EvT -/
namespace Ev
open PySem PySem.Spec PyProof.Rows L2
open Sem (wp)
open AutoSeq1 (wpAny_loadPart')
/-! ### enumerate of a tuple -/
theorem enumT_new (l : Addr) (items : Array Value) (n : Nat) (dct : Option Addr) (sl : Array (Option Value)) :
    Meets (Builtin.«enumerate.__new__» ⟨[.type "enumerate", .ref l], []⟩) (fun _ R s => s.heap.get? l = some { cls := .type "tuple", dict := dct, data := .seq items n, slots := sl } ∧
      R (.ok (.ret (.ref (s.heap.push { cls := .type "tuple_iterator", data := .fields #[.ref l, .int 0 0] }).objs.size)))
        { s with heap := (s.heap.push { cls := .type "tuple_iterator", data := .fields #[.ref l, .int 0 0] }).push { cls := .type "enumerate", data := .fields #[.none, .bool false, .ref s.heap.objs.size, rawInt 0, .none, .none] } }) :=
  .of_wp fun prog w A R s h => by
    obtain ⟨hp, g, d, tk, os⟩ := s; obtain ⟨hl, h⟩ := h
    have hsub := sub_enumerate
    have hL : Heap.IsTuple (Shared.heap ⟨hp, g, d, tk, os⟩) l items := ⟨_, hl, rfl, n, rfl⟩
    wp_walk using wpAny_loadPart' hl
    refine wpAny_stack_any fun st => wpAny_pure ?_
    split
    · rename_i c _ _ _ _ _
      cases (c == Value.type "enumerate")
      · wp_walk using wpAny_loadPart' hl, wpAny_pyIter_tuple hL
        exact ⟨_, rfl, h⟩
      · wp_walk using wpAny_loadPart' hl, wpAny_pyIter_tuple hL
        exact ⟨_, rfl, h⟩
    · wp_walk using wpAny_loadPart' hl, wpAny_pyIter_tuple hL
      exact ⟨_, rfl, h⟩
section
variable {prog : Program} {w : World} {A : Around} {E : Value → Shared → Prop} {s : Shared}
theorem call_enumT {l : Addr} {items : Array Value} {Q : Value → Shared → Prop} (hL : s.heap.IsTuple l items)
    (h : ∀ h', IsEnum h' (s.heap.objs.size + 1) s.heap.objs.size 0 .none → h'.IsTupleIter s.heap.objs.size l 0 → h'.objs.size = s.heap.objs.size + 2 →
      (∀ b o, s.heap.get? b = some o → h'.get? b = some o) → Q (.ref (s.heap.objs.size + 1)) { s with heap := h' }) :
    wpAny (model prog w) A (call (.type "enumerate") [.ref l]) Q E s := by
  obtain ⟨⟨c, dct, dt, sl⟩, hl, hc, n, hd⟩ := hL
  replace hc : c = .type "tuple" := hc
  replace hd : dt = .seq items n := hd
  subst hc hd
  refine callType_new F.called_enumerate (by decide) (F.typeCall_enumerate_1 _) (F.newCall_enumerate_1 _) (fun obj => F.args_object_init_2 obj _) F.entry_enumerate_new
    (enumT_new l items n dct sl) ⟨hl, ?_⟩
  have hz : (s.heap.push { cls := .type "tuple_iterator", data := .fields #[.ref l, .int 0 0] }).objs.size = s.heap.objs.size + 1 := Heap.size_push ..
  show _ ∧ _
  rw [hz]
  have he : IsEnum ((s.heap.push { cls := .type "tuple_iterator", data := .fields #[.ref l, .int 0 0] }).push
      { cls := .type "enumerate", data := .fields #[.none, .bool false, .ref s.heap.objs.size, rawInt 0, .none, .none] }) (s.heap.objs.size + 1) s.heap.objs.size 0 .none := by
    have := Heap.get?_push_size (s.heap.push { cls := .type "tuple_iterator", data := .fields #[.ref l, .int 0 0] })
      (o := { cls := .type "enumerate", data := .fields #[.none, .bool false, .ref s.heap.objs.size, rawInt 0, .none, .none] }) rfl
    rw [hz] at this; exact this
  refine ⟨⟨_, he, rfl⟩, h _ he ⟨_, Heap.get?_push_of_some _ (Heap.get?_push_size _ rfl), rfl, rfl⟩ (by rw [Heap.size_push, hz]) fun b o x => Heap.get?_push_of_some _ (Heap.get?_push_of_some _ x)⟩
end
/-- the pairs (i, item) of a tuple -/
def IteT (K : PySem.W.Frag) (a : Addr) : It :=
  ⟨fun i H => ∃ (xs : List V) (x : V), SqT K H a xs ∧ xs[i]? = some x, fun i H v H' => ∃ T x, v = .ref T ∧ H T = none ∧ H' = upd H T (.tup [.int (i : Nat), x]) ∧ ∀ xs, SqT K H a xs → xs[i]? = some x, fun i H => ∃ xs : List V, SqT K H a xs ∧ xs.length = i⟩
theorem turn_enumT {P : Program} {w : World} {K : PySem.W.Frag} {elts : List Expr} {kk : Nat} {tpos : Pos} (a e it : Addr) (hea : e ≠ a) (hia : it ≠ a) :
    Turn P w K (.Tuple elts kk tpos) (IteT K a) [e, it] e (fun i h => (∃ old, IsEnum h e it ((i : Nat) : Int) old) ∧ h.IsTupleIter it a i ∧ e ≠ it) where
  mem := by simp
  obj := fun i h st b hb => by
    obtain ⟨⟨old, he⟩, ⟨o, ho, hc, hd⟩, _⟩ := st
    have e' : b = e ∨ b = it := by simpa using hb
    rcases e' with z | z
    · rw [z]; exact ⟨_, he, fun v q => nomatch q⟩
    · rw [z]; exact ⟨o, ho, fun v q => by rw [hd] at q; cases q⟩
  keep := fun i h h' st k => let ⟨⟨old, he⟩, hi, hne⟩ := st; ⟨⟨old, k e (by simp) _ he⟩, hi.at fun o q => k it (by simp) o q, hne⟩
  item := by
    intro X hP hw hK hc i pins s σ H E I hf st hg
    subst hP hw hK
    obtain ⟨⟨old, he⟩, hit, hne⟩ := st
    obtain ⟨xs, x, hq, hx⟩ := hg
    obtain ⟨its, rv, p, hz⟩ := I.tuple hq
    obtain ⟨u, hu, ru⟩ := rv.get hx
    have hel : e < s.heap.objs.size := Heap.lt_size he
    have hil : it < s.heap.objs.size := by obtain ⟨_, q, _⟩ := hit; exact Heap.lt_size q
    have hT0 : s.heap.IsTuple a its.toArray := p
    have hil2 : i < its.toArray.size := by
      have := (List.getElem?_eq_some_iff.mp hu).1
      simpa using this
    refine wpAny_pyNext_enum_itemD (n := its.toArray.size) (P := fun i v => its.toArray[i]? = some v) (St := fun i h => h.IsTupleIter it a i ∧ h.IsTuple a its.toArray) (Draws.tuple (A := X.A.in1) (I.ok.hd hc) it a (Ne.symm hia) its.toArray) he ⟨hit, hT0⟩ hil2 hne (by simp [hne, hea]) fun u' h' tk hu' ho hit' hT hsz hk => ?_
    have hu'' : u' = u := by
      have : its.toArray[i]? = some u := by simpa using hu
      rw [this] at hu'
      exact (Option.some.inj hu').symm
    subst hu''
    refine ⟨_, rfl, wpAny_letOwnedTupleGo_enum (s := { s with heap := h', toks := tk + 1 }) ho fun h'' he' sb => ?_⟩
    have hT2 : h''.get? s.heap.objs.size = some { cls := .type "tuple", data := .seq #[.int i tk, u'] } := (sb.2 _ (Nat.ne_of_gt hel)).trans hT
    have new : ObjOk X.prog X.w (upd H s.heap.objs.size (.tup [.int (i : Nat), x])) h'' s.heap.objs.size (.tup [.int (i : Nat), x]) :=
      ⟨by show 2 ≤ sizeLine; decide, [.int i tk, u'], .cons ⟨_, rfl⟩ (.cons ru .nil), ⟨_, hT2, rfl, _, rfl⟩⟩
    have I1 : Inv X pins σ (upd H s.heap.objs.size (.tup [.int (i : Nat), x])) { s with heap := h'', toks := tk + 1 } :=
      I.turnedNew (ch := [e, it]) (fun b ob hb q => (sb.2 b (fun z => hb (by simp [z]))).trans (hk b ob (fun z => hb (by simp [z])) (fun z => hb (by simp [z])) q)) hf (Nat.le_refl _) new
    refine ⟨.ref s.heap.objs.size, _, I1, rfl, ⟨_, x, rfl, I.hok.fresh (Nat.le_refl _), rfl, fun ys hy => by rw [I.tuple_inj hy hq]; exact hx⟩, ⟨⟨u', ?_⟩, hit'.1.at fun o q => (sb.2 it (Ne.symm hne)).trans q, hne⟩, fun b hb => ?_⟩
    · have e1 : ((i + 1 : Nat) : Int) = (i : Int) + 1 := by omega
      rw [e1]; exact he'
    · have hb' : b < s.heap.objs.size := by
        have e' : b = e ∨ b = it := by simpa using hb
        rcases e' with z | z
        · rw [z]; exact hel
        · rw [z]; exact hil
      rw [upd_ne (Nat.ne_of_lt hb')]
      exact (hf b hb).1
  done := by
    intro X hP hw hK hc i pins s σ H E I hf st hg
    subst hP hw hK
    obtain ⟨⟨old, he⟩, hit, hne⟩ := st
    obtain ⟨xs, hq, hx⟩ := hg
    obtain ⟨its, rv, p, hz⟩ := I.tuple hq
    obtain ⟨f0, f1, f2, f3, f4, f5⟩ := hf it (by simp)
    have hl := rv.length
    have hT0 : s.heap.IsTuple a its.toArray := p
    have hsz : its.toArray.size = i := by rw [List.size_toArray]; omega
    exact wpAny_pyNext_enum_endD (n := its.toArray.size) (P := fun i v => its.toArray[i]? = some v) (St := fun i h => h.IsTupleIter it a i ∧ h.IsTuple a its.toArray) (Draws.tuple (A := X.A.in1) (I.ok.hd hc) it a (Ne.symm hia) its.toArray) he ⟨by rw [hsz]; exact hit, hT0⟩ fun h' eb => ⟨rfl, I.turned (t' := s.toks) (fun b o hb q => eb b o hb q) f0 f1 f3 f4 f5⟩
  self := fun A i s Q E st h => let ⟨⟨_, he⟩, _⟩ := st; wpAny_pyIter_enum he h
def iEnumA (K : PySem.W.Frag) (ta : TA) : TI := fun σ H R => ta σ H fun vs H1 => ∃ a xs, vs = [.ref a] ∧ ((SqL K H1 a xs ∧ R (Ite K a) H1) ∨ (SqT K H1 a xs ∧ R (IteT K a) H1))
theorem pi_enumA {X : Cx} {e : Expr} {ta : TA} {p pos tpos : Pos} {elts : List Expr} {kk : Nat} (hg : Gl X "enumerate") (hm : X.mg "enumerate" = none) (ha : PA X [e] ta) (hs : starEach [e] X.env = [(false, eval e X.env)]) :
    PI X (.Tuple elts kk tpos) (.Call (.Name "enumerate" p) [e] [] pos) (iEnumA X.K ta) := by
  refine ⟨fun pins s σ H R I h => ?_⟩
  refine Call_ (ld_blt I hg hm boot_enumerate (PyProof.Rows.callWith_type1 (thn (ha.run pos pins s σ H _ I h) fun us s1 ⟨vs, H1, I1, r1, q1⟩ => ?_) hs rfl))
  obtain ⟨a, xs, ex, q⟩ := q1
  subst ex
  cases r1 with
  | cons r rr =>
    cases rr
    cases r
    rcases q with ⟨hq, q⟩ | ⟨hq, q⟩
    · obtain ⟨its, rv, p', hz⟩ := I1.list hq
      refine call_enumerate_list p'.isList fun h' he hit hsz hk => wpAny_pyIter_enum he ?_
      have I2 : Inv X pins σ H1 { s1 with heap := h' } := I1.kept (t' := s1.toks) hk
      refine ⟨s1.heap.objs.size + 1, [s1.heap.objs.size + 1, s1.heap.objs.size], _, _, H1, rfl, I2, turn_enum a (s1.heap.objs.size + 1) s1.heap.objs.size, ⟨⟨.none, he⟩, hit, Nat.succ_ne_self _⟩, fun b hb => ?_, q⟩
      have e' : b = s1.heap.objs.size + 1 ∨ b = s1.heap.objs.size := by simpa using hb
      have hle : s1.heap.objs.size ≤ b := by
        rcases e' with z | z
        · rw [z]; exact Nat.le_add_right _ _
        · rw [z]; exact Nat.le_refl _
      exact I1.fpOk hle (I1.hok.fresh hle)
    · obtain ⟨its, rv, p', hz⟩ := I1.tuple hq
      have hT : s1.heap.IsTuple a its.toArray := p'
      have hlt : a < s1.heap.objs.size := by obtain ⟨o, ho, _⟩ := hT; exact Heap.lt_size ho
      refine call_enumT hT fun h' he hit hsz hk => wpAny_pyIter_enum he ?_
      have I2 : Inv X pins σ H1 { s1 with heap := h' } := I1.kept (t' := s1.toks) hk
      refine ⟨s1.heap.objs.size + 1, [s1.heap.objs.size + 1, s1.heap.objs.size], _, _, H1, rfl, I2, turn_enumT a (s1.heap.objs.size + 1) s1.heap.objs.size (Nat.ne_of_gt (Nat.lt_succ_of_lt hlt)) (Nat.ne_of_gt hlt), ⟨⟨.none, he⟩, hit, Nat.succ_ne_self _⟩, fun b hb => ?_, q⟩
      have e' : b = s1.heap.objs.size + 1 ∨ b = s1.heap.objs.size := by simpa using hb
      have hle : s1.heap.objs.size ≤ b := by
        rcases e' with z | z
        · rw [z]; exact Nat.le_add_right _ _
        · rw [z]; exact Nat.le_refl _
      exact I1.fpOk hle (I1.hok.fresh hle)
end Ev
/-! EvX7 -/
namespace Ev
open PySem PySem.Spec PyProof.Rows L2
/-! ### iteration -/
/-- J yields xs, wherever ds are still seen at vs -/
def ItV (C : Ctx) (ds : List D) (vs : List V) (xs : List D) (J : It) : Prop := ∀ θ F H ow st, Hok θ F H ow st → RBs C θ F (Hn ow H) ds vs → ∀ i, (xs.length = i → J.stop i H) ∧
  ∀ d, xs[i]? = some d → J.go i H ∧ ∀ x H', J.yld i H x H' → ∃ F', Stp θ F H ow θ F' H' ow ∧ Hok θ F' H' ow st ∧ R C θ F' d x
def SemI (X : Cx) (tg it : Expr) : TI := fun σ H R => ∀ (pins : List (Addr × Obj)) (s : Shared), Inv X pins σ H s → wpAny (model X.prog X.w) X.A (eval it X.env) (fun v s1 => wpAny (model X.prog X.w) X.A (pyIter v) (PIE X pins σ tg R) X.xe s1) X.xe s
theorem pi_sem {X : Cx} {tg it : Expr} : PI X tg it (SemI X tg it) := ⟨fun pins s _ _ _ I h => h pins s I⟩
theorem si {X : Cx} {tg it : Expr} {t : TI} (h : PI X tg it t) {σ : L2.St} {H : Hp} {R : It → Hp → Prop} (q : t σ H R) : SemI X tg it σ H R := fun pins s I => h.run pins s σ H R I q
def SemL (X : Cx) (im : Im) (es : List Expr) : TA := fun σ H Q => match im with
  | .of => ∃ e, es = [e] ∧ SemE X e σ H fun v H1 => Q [v] H1
  | _ => SemA X es σ H Q
def iAny (X : Cx) (te : TE) : TI := fun σ H R => te σ H fun v H1 => (∃ a xs, v = .ref a ∧ SqL X.K H1 a xs ∧ R (Itl X.K a) H1) ∨ (∃ a xs, v = .ref a ∧ SqT X.K H1 a xs ∧ R (Itt X.K a) H1) ∨ ∃ x, v = .str x ∧ R (Its x) H1
theorem pi_any {X : Cx} {tg l : Expr} {tl : TE} (hl : PE X l tl) : PI X tg l (iAny X tl) := by
  refine ⟨fun pins s σ H R I h => ?_⟩
  refine thn (hl.run pins s σ H _ I h) fun v s1 ⟨x, H1, I1, r1, q1⟩ => ?_
  rcases q1 with ⟨a, xs, e, hq, q⟩ | ⟨a, xs, e, hq, q⟩ | ⟨x', ex, q⟩
  · subst e
    cases r1
    obtain ⟨its, rv, p, hz⟩ := I1.list hq
    refine wpAny_pyIter_list p.isList ?_
    refine ⟨s1.heap.objs.size, [s1.heap.objs.size], _, _, H1, rfl, I1.kept (t' := s1.toks) fun b o e => Heap.get?_push_of_some _ e, turn_list a _, ⟨_, Heap.get?_push_size _ rfl, rfl, rfl⟩, fun b hb => ?_, q⟩
    have e : b = s1.heap.objs.size := by simpa using hb
    subst e
    exact I1.fpOk (Nat.le_refl _) (I1.hok.fresh (Nat.le_refl _))
  · subst e
    cases r1
    obtain ⟨its, rv, p, hz⟩ := I1.tuple hq
    refine wpAny_pyIter_tuple (show s1.heap.IsTuple a its.toArray from p) ?_
    refine ⟨s1.heap.objs.size, [s1.heap.objs.size], _, _, H1, rfl, I1.kept (t' := s1.toks) fun b o e => Heap.get?_push_of_some _ e, turn_tuple a _, ⟨_, Heap.get?_push_size _ rfl, rfl, rfl⟩, fun b hb => ?_, q⟩
    have e : b = s1.heap.objs.size := by simpa using hb
    subst e
    exact I1.fpOk (Nat.le_refl _) (I1.hok.fresh (Nat.le_refl _))
  · subst ex
    obtain ⟨t, rfl⟩ := r1
    cases ha : x'.cps.all (· < 128)
    · exact wpAny_pyIter_wide ha (pi_one (tk := s1.toks) I1 _ (turn_str _ x' t "str_iterator" (.inr rfl)) ⟨_, Heap.get?_push_size _ rfl, rfl, rfl⟩ q)
    · exact wpAny_pyIter_ascii ha (pi_one (tk := s1.toks) I1 _ (turn_str _ x' t "str_ascii_iterator" (.inl rfl)) ⟨_, Heap.get?_push_size _ rfl, rfl, rfl⟩ q)
section
variable {C : Ctx} {X : Cx}
/-- the text it, walked, with its operands' texts -/
def IRun (C : Ctx) (X : Cx) (tg it : Expr) (im : Im) (es : List Expr) : Prop := ∀ σ H R, SemL X im es σ H (fun vs H1 => ∃ θ F ow st ds xs, Hok θ F H1 ow st ∧ RBs C θ F (Hn ow H1) ds vs ∧ itD im ds = some xs ∧ ∀ J, ItV C ds vs xs J → R J H1) → SemI X tg it σ H R
theorem hn_lst {ow : OwF} {H : Hp} {a : Addr} {vs : List V} (h : Hn ow H a = some (.lst vs)) : H a = some (.lst vs) := Hn_le.lst h
theorem itV_list (hK : X.K = C.K) {a : Addr} {xs : List D} : ItV C [.lst xs] [.ref a] xs (Itl X.K a) := by
  intro θ F H ow st ok r i
  obtain ⟨v, r1, e, q, z⟩ := r
  cases z
  cases e
  obtain ⟨p, vs, e, hp, rr⟩ := q
  cases e
  have hq : SqL X.K H a vs := SqL.of (hn_lst hp)
  refine ⟨fun hl => ⟨vs, hq, by rw [rr.length]; exact Nat.le_of_eq hl⟩, fun d hd => ?_⟩
  obtain ⟨v, ev, rv⟩ := rr.get hd
  refine ⟨⟨vs, v, hq, ev⟩, fun x H' y => ?_⟩
  obtain ⟨rfl, y⟩ := y
  have := y vs hq
  rw [ev] at this
  cases this
  exact ⟨F, Stp.refl, ok, rv⟩
theorem itV_tup (hK : X.K = C.K) {a : Addr} {xs : List D} : ItV C [.tup xs] [.ref a] xs (Itt X.K a) := by
  intro θ F H ow st ok r i
  obtain ⟨v, r1, e, q, z⟩ := r
  cases z
  cases e
  obtain ⟨p, vs, e, hp, rr⟩ := q
  cases e
  have hq : SqT X.K H a vs := by rw [hK]; exact ok.le.sqt hp
  refine ⟨fun hl => ⟨vs, hq, by rw [rr.length]; exact Nat.le_of_eq hl⟩, fun d hd => ?_⟩
  obtain ⟨v, ev, rv⟩ := rr.get hd
  refine ⟨⟨vs, v, hq, ev⟩, fun x H' y => ?_⟩
  obtain ⟨rfl, y⟩ := y
  have := y vs hq
  rw [ev] at this
  cases this
  exact ⟨F, Stp.refl, ok, rv⟩
theorem itV_str {x : Str} {vs : List V} : ItV C [.str x] vs (strOf x) (Its x) := by
  intro θ F H ow st ok r i
  refine ⟨fun hl => ?_, fun d hd => ?_⟩
  · show x.cps.size ≤ i
    unfold strOf at hl
    have : x.cps.size = i := by simpa using hl
    omega
  · unfold strOf at hd
    rw [List.getElem?_map] at hd
    obtain ⟨c, hc, rfl⟩ := Option.map_eq_some_iff.mp hd
    have hc : x.cps[i]? = some c := by simpa using hc
    refine ⟨(Array.getElem?_eq_some_iff.mp hc).1, fun v H' y => ?_⟩
    obtain ⟨rfl, c', hc', rfl⟩ := y
    rw [hc] at hc'
    cases hc'
    exact ⟨F, Stp.refl, ok, rfl⟩
theorem i_of (hK : X.K = C.K) {tg e : Expr} : IRun C X tg e .of [e] := by
  intro σ H R h
  obtain ⟨e', ee, h⟩ := h
  cases ee
  refine si (pi_any pe_sem) (SemE.mono h fun v H1 q => ?_)
  obtain ⟨θ, F, ow, st, ds, xs, ok, r, hi, k⟩ := q
  unfold itD at hi
  simp only at hi
  split at hi
  · cases hi
    obtain ⟨v', r', e, q, z⟩ := r
    cases z
    cases e
    obtain ⟨p, vs, rfl, hp, rr⟩ := q
    exact .inl ⟨p, vs, rfl, SqL.of (hn_lst hp), k _ (itV_list hK)⟩
  · cases hi
    obtain ⟨v', r', e, q, z⟩ := r
    cases z
    cases e
    obtain ⟨p, vs, rfl, hp, rr⟩ := q
    exact .inr (.inl ⟨p, vs, rfl, by rw [hK]; exact ok.le.sqt hp, k _ (itV_tup hK)⟩)
  · cases hi
    obtain ⟨v', r', e, q, z⟩ := r
    cases z
    cases e
    cases (show v = V.str _ from q)
    exact .inr (.inr ⟨_, rfl, k _ itV_str⟩)
  · cases hi
theorem rangeD_some {lo hi : Int} {xs : List D} (h : rangeD lo hi = some xs) : (-(2 ^ 62) ≤ lo ∧ lo < 2 ^ 62 ∧ -(2 ^ 62) ≤ hi ∧ hi < 2 ^ 62) ∧ xs = (List.range (hi - lo).toNat).map fun i => .int (lo + (i : Nat)) := by
  unfold rangeD at h
  split at h
  · rename_i hc
    cases h
    simp only [Bool.and_eq_true, decide_eq_true_eq] at hc
    exact ⟨⟨hc.1.1.1, hc.1.1.2, hc.1.2, hc.2⟩, rfl⟩
  · cases h
theorem itV_rng {lo : Int} {n : Nat} {ds : List D} {vs : List V} : ItV C ds vs ((List.range n).map fun i => .int (lo + (i : Nat))) (Itr lo n) := by
  intro θ F H ow st ok r i
  refine ⟨fun hl => ?_, fun d hd => ?_⟩
  · show n ≤ i
    have : n = i := by simpa using hl
    omega
  · rw [List.getElem?_map] at hd
    obtain ⟨c, hc, rfl⟩ := Option.map_eq_some_iff.mp hd
    obtain ⟨h1, h2⟩ := List.getElem?_eq_some_iff.mp hc
    rw [List.getElem_range] at h2
    subst h2
    refine ⟨(by simpa using h1 : i < n), fun v H' y => ?_⟩
    obtain ⟨rfl, rfl⟩ := y
    exact ⟨F, Stp.refl, ok, rfl⟩
theorem SemA.mono {es : List Expr} {σ : L2.St} {H : Hp} {Q Q' : List V → Hp → Prop} (h : SemA X es σ H Q) (q : ∀ v H', Q v H' → Q' v H') : SemA X es σ H Q' := fun pos pins s I => thn (h pos pins s I) fun u s' ⟨v, H', I', r, z⟩ => ⟨v, H', I', r, q v H' z⟩
theorem i_range1 {tg a : Expr} {p pos : Pos} (hg : Gl X "range") (hm : X.mg "range" = none) (na : nst a = true) : IRun C X tg (.Call (.Name "range" p) [a] [] pos) .range1 [a] := by
  intro σ H R h
  refine si (pi_range1 hg hm pa_sem (star_cons na [] X.env)) (SemA.mono h fun v H1 q => ?_)
  obtain ⟨θ, F, ow, st, ds, xs, ok, r, hi, k⟩ := q
  unfold itD at hi
  simp only at hi
  split at hi
  · rename_i n
    obtain ⟨hb, rfl⟩ := rangeD_some hi
    obtain ⟨v', r', e, q, z⟩ := r
    cases z
    cases e
    cases (show v' = V.int _ from q)
    refine ⟨n, rfl, hb.2.2.1, hb.2.2.2, ?_⟩
    rw [show n.toNat = (n - 0).toNat by simp]
    exact k _ itV_rng
  · cases hi
theorem i_range2 {tg a b : Expr} {p pos : Pos} (hg : Gl X "range") (hm : X.mg "range" = none) (na : nst a = true) (nb : nst b = true) : IRun C X tg (.Call (.Name "range" p) [a, b] [] pos) .range2 [a, b] := by
  intro σ H R h
  refine si (pi_range2 hg hm pa_sem (by rw [star_cons na, star_cons nb]; rfl) (star_cons nb [] X.env)) (SemA.mono h fun v H1 q => ?_)
  obtain ⟨θ, F, ow, st, ds, xs, ok, r, hi, k⟩ := q
  unfold itD at hi
  simp only at hi
  split at hi
  · rename_i m n
    obtain ⟨hb, rfl⟩ := rangeD_some hi
    obtain ⟨v', w', rfl, q, q2⟩ := rbs2 r
    cases (show v' = V.int _ from q)
    cases (show w' = V.int _ from q2)
    exact ⟨m, n, rfl, hb, k _ itV_rng⟩
  · cases hi
theorem new_tup {θ : Toks} {F H : Hp} {ow : OwF} {st : Sst} (ok : Hok θ F H ow st) {T : Addr} {vs : List V} {ds : List D} (hT : H T = none) (r : Rs C θ F ds vs) : ∃ F', Stp θ F H ow θ F' (upd H T (.tup vs)) ow ∧ Hok θ F' (upd H T (.tup vs)) ow st ∧ R C θ F' (.tup ds) (.ref T) := by
  obtain ⟨o1, s1⟩ := ok.frozen (o := .tup vs) hT
  exact ⟨_, s1, o1, T, vs, rfl, SqT.of upd_same, Rs.mono s1.leF s1.th _ _ r⟩
theorem itV_enum (hK : X.K = C.K) {a : Addr} {xs : List D} : ItV C [.lst xs] [.ref a] (xs.mapIdx fun i d => .tup [.int i, d]) (Ite X.K a) := by
  intro θ F H ow st ok r i
  obtain ⟨v, r1, e, q, z⟩ := r
  cases z
  cases e
  obtain ⟨p, vs, e, hp, rr⟩ := q
  cases e
  have hq : SqL X.K H a vs := SqL.of (hn_lst hp)
  refine ⟨fun hl => ⟨vs, hq, by rw [rr.length]; rw [List.length_mapIdx] at hl; omega⟩, fun d hd => ?_⟩
  rw [List.getElem?_mapIdx] at hd
  obtain ⟨d', hd', rfl⟩ := Option.map_eq_some_iff.mp hd
  obtain ⟨v, ev, rv⟩ := rr.get hd'
  refine ⟨⟨vs, v, hq, ev⟩, fun x H' y => ?_⟩
  obtain ⟨T, x', rfl, hT, rfl, y⟩ := y
  have := y vs hq
  rw [ev] at this
  cases this
  exact new_tup ok hT ⟨_, _, rfl, rfl, _, _, rfl, rv, rfl⟩
theorem itV_enumT (hK : X.K = C.K) {a : Addr} {xs : List D} : ItV C [.tup xs] [.ref a] (xs.mapIdx fun i d => .tup [.int i, d]) (IteT X.K a) := by
  intro θ F H ow st ok r i
  obtain ⟨v, r1, e, q, z⟩ := r
  cases z
  cases e
  obtain ⟨p, vs, e, hp, rr⟩ := q
  cases e
  have hq : SqT X.K H a vs := by rw [hK]; exact ok.le.sqt hp
  refine ⟨fun hl => ⟨vs, hq, by rw [rr.length]; rw [List.length_mapIdx] at hl; exact hl⟩, fun d hd => ?_⟩
  rw [List.getElem?_mapIdx] at hd
  obtain ⟨d', hd', rfl⟩ := Option.map_eq_some_iff.mp hd
  obtain ⟨v, ev, rv⟩ := rr.get hd'
  refine ⟨⟨vs, v, hq, ev⟩, fun x H' y => ?_⟩
  obtain ⟨T, x', rfl, hT, rfl, y⟩ := y
  have := y vs hq
  rw [ev] at this
  cases this
  exact new_tup ok hT ⟨_, _, rfl, rfl, _, _, rfl, rv, rfl⟩
theorem i_enum (hK : X.K = C.K) {a : Expr} {elts : List Expr} {kk : Nat} {p pos tpos : Pos} (hg : Gl X "enumerate") (hm : X.mg "enumerate" = none) (na : nst a = true) : IRun C X (.Tuple elts kk tpos) (.Call (.Name "enumerate" p) [a] [] pos) .enum [a] := by
  intro σ H R h
  refine si (pi_enumA hg hm pa_sem (star_cons na [] X.env)) (SemA.mono h fun v H1 q => ?_)
  obtain ⟨θ, F, ow, st, ds, xs, ok, r, hi, k⟩ := q
  unfold itD at hi
  simp only at hi
  split at hi
  · cases hi
    obtain ⟨v', r', e, q, z⟩ := r
    cases z
    cases e
    obtain ⟨p, vs, rfl, hp, rr⟩ := q
    exact ⟨p, vs, rfl, .inl ⟨SqL.of (hn_lst hp), k _ (itV_enum hK)⟩⟩
  · cases hi
    obtain ⟨v', r', e, q, z⟩ := r
    cases z
    cases e
    obtain ⟨p, vs, rfl, hp, rr⟩ := q
    exact ⟨p, vs, rfl, .inr ⟨by rw [hK]; exact ok.le.sqt hp, k _ (itV_enumT hK)⟩⟩
  · cases hi
theorem itV_zip (hK : X.K = C.K) {a b : Addr} {xs ys : List D} : ItV C [.lst xs, .lst ys] [.ref a, .ref b] (List.zipWith (fun x y => .tup [x, y]) xs ys) (Itz X.K a b) := by
  intro θ F H ow st ok r i
  obtain ⟨v', w', e, q, q2⟩ := rbs2 r
  cases e
  obtain ⟨p, vs, e, hp, rr⟩ := q
  cases e
  obtain ⟨p2, ws, e, hp2, rr2⟩ := q2
  cases e
  have hq : SqL X.K H a vs := SqL.of (hn_lst hp)
  have hq2 : SqL X.K H b ws := SqL.of (hn_lst hp2)
  refine ⟨fun hl => ⟨vs, ws, hq, hq2, ?_⟩, fun d hd => ?_⟩
  · rw [List.length_zipWith] at hl
    rw [rr.length, rr2.length]
    omega
  · rw [List.getElem?_zipWith_eq_some] at hd
    obtain ⟨d1, d2, h1, h2, rfl⟩ := hd
    obtain ⟨v1, e1, r1⟩ := rr.get h1
    obtain ⟨v2, e2, r2⟩ := rr2.get h2
    refine ⟨⟨vs, ws, v1, v2, hq, hq2, e1, e2⟩, fun x H' y => ?_⟩
    obtain ⟨T, x1, x2, rfl, hT, rfl, y1, y2⟩ := y
    have := y1 vs hq
    rw [e1] at this
    cases this
    have := y2 ws hq2
    rw [e2] at this
    cases this
    exact new_tup ok hT ⟨_, _, rfl, r1, _, _, rfl, r2, rfl⟩
theorem itV_zipT (hK : X.K = C.K) {a b : Addr} {xs ys : List D} : ItV C [.tup xs, .tup ys] [.ref a, .ref b] (List.zipWith (fun x y => .tup [x, y]) xs ys) (RZ.ItzT X.K a b) := by
  intro θ F H ow st ok r i
  obtain ⟨v', w', e, q, q2⟩ := rbs2 r
  cases e
  obtain ⟨p, vs, e, hp, rr⟩ := q
  cases e
  obtain ⟨p2, ws, e, hp2, rr2⟩ := q2
  cases e
  have hq : SqT X.K H a vs := by rw [hK]; exact ok.le.sqt hp
  have hq2 : SqT X.K H b ws := by rw [hK]; exact ok.le.sqt hp2
  refine ⟨fun hl => ⟨vs, ws, hq, hq2, ?_⟩, fun d hd => ?_⟩
  · rw [List.length_zipWith] at hl
    rw [rr.length, rr2.length]
    omega
  · rw [List.getElem?_zipWith_eq_some] at hd
    obtain ⟨d1, d2, h1, h2, rfl⟩ := hd
    obtain ⟨v1, e1, r1⟩ := rr.get h1
    obtain ⟨v2, e2, r2⟩ := rr2.get h2
    refine ⟨⟨vs, ws, v1, v2, hq, hq2, e1, e2⟩, fun x H' y => ?_⟩
    obtain ⟨T, x1, x2, rfl, hT, rfl, y1, y2⟩ := y
    have := y1 vs hq
    rw [e1] at this
    cases this
    have := y2 ws hq2
    rw [e2] at this
    cases this
    exact new_tup ok hT ⟨_, _, rfl, r1, _, _, rfl, r2, rfl⟩
theorem i_zip (hK : X.K = C.K) {a b : Expr} {elts : List Expr} {kk : Nat} {p pos tpos : Pos} (hg : Gl X "zip") (hm : X.mg "zip" = none) (na : nst a = true) (nb : nst b = true) : IRun C X (.Tuple elts kk tpos) (.Call (.Name "zip" p) [a, b] [] pos) .zip [a, b] := by
  intro σ H R h
  refine si (RZ.pi_zipA hg hm pa_sem (star_cons na [b] X.env) (by rw [star_cons nb]; rfl)) (SemA.mono h fun v H1 q => ?_)
  obtain ⟨θ, F, ow, st, ds, xs, ok, r, hi, k⟩ := q
  unfold itD at hi
  simp only at hi
  split at hi
  · cases hi
    obtain ⟨v', w', rfl, q, q2⟩ := rbs2 r
    obtain ⟨p, vs, rfl, hp, rr⟩ := q
    obtain ⟨p2, ws, rfl, hp2, rr2⟩ := q2
    exact ⟨p, p2, vs, ws, rfl, .inl ⟨SqL.of (hn_lst hp), SqL.of (hn_lst hp2), k _ (itV_zip hK)⟩⟩
  · cases hi
    obtain ⟨v', w', rfl, q, q2⟩ := rbs2 r
    obtain ⟨p, vs, rfl, hp, rr⟩ := q
    obtain ⟨p2, ws, rfl, hp2, rr2⟩ := q2
    exact ⟨p, p2, vs, ws, rfl, .inr ⟨by rw [hK]; exact ok.le.sqt hp, by rw [hK]; exact ok.le.sqt hp2, k _ (itV_zipT hK)⟩⟩
  · cases hi
end
end Ev
/-! EvU -/
namespace Ev
open PySem PySem.Spec PyProof.Rows L2
/-! ### (a, b, ..) = a list of that length -/
section
variable {prog : Program} {w : World} {A : Around} {E : Value → Shared → Prop} {s : Shared}
theorem draw_list {it l : Addr} {items : Array Value} (hne : l ≠ it) : ∀ (n i : Nat) (s : Shared) (Q : List Value → Shared → Prop), s.heap.IsListIter it l i → s.heap.IsList l items → i + n ≤ items.size →
    (∀ h', h'.IsListIter it l (i + n) → Heap.SameBut it s.heap h' → Q ((items.toList.drop i).take n) { s with heap := h' }) → wpAny (model prog w) A (draw (.ref it) n) Q E s
  | 0, i, s, Q, hit, _, _, hQ => by
    show wpAny _ _ (pure []) Q E s
    exact wpAny_pure (by simpa using hQ s.heap hit (Heap.SameBut.refl ..))
  | n + 1, i, s, Q, hit, ht, hle, hQ => by
    have hlt : i < items.size := by omega
    show wpAny _ _ (pyNext (.ref it) >>= _) Q E s
    refine wpAny_bind (wpAny_pyNext_list_item hit ht (x := items[i]) (by simp [hlt]) fun h₁ hit₁ hs₁ => ?_)
    refine wpAny_bind (wpAny_holding (draw_list hne n (i + 1) _ _ hit₁ (ht.extBut hs₁.extBut hne) (by omega) fun h₂ hit₂ hs₂ => wpAny_pure ?_))
    have hd : items.toList.drop i = items[i] :: items.toList.drop (i + 1) := by simp [List.drop_eq_getElem_cons, hlt]
    have := hQ h₂ (by rw [show i + (n + 1) = i + 1 + n by omega]; exact hit₂) (hs₁.trans hs₂)
    rw [hd, List.take_succ_cons] at this
    exact this
theorem unpackItems_list {l : Addr} {items : Array Value} {Q : List Value → Shared → Prop} (hh : A.handled = none) (ht : s.heap.IsList l items)
    (hQ : ∀ h', Heap.ExtBut s.heap.objs.size s.heap h' → Q items.toList { s with heap := h' }) : wpAny (model prog w) A (unpackItems (.ref l) items.size none) Q E s := by
  have hlt : l ≠ s.heap.objs.size := by obtain ⟨o, ho, _⟩ := ht; exact Nat.ne_of_lt (Heap.lt_size ho)
  unfold unpackItems
  refine wpAny_bind ?_
  · unfold notIterableAtAll
    refine wpAny_bind (wpAny_specialOf ht.typeIs slot_list_iter.lookup ?_)
    refine wpAny_pure ?_
    simp only [Bool.false_eq_true, if_false]
    refine wpAny_bind (wpAny_holding (wpAny_pyIter_list ht ?_))
    refine wpAny_bind (wpAny_holding (draw_list hlt items.size 0 _ _ ⟨_, Heap.get?_push_size _ rfl, rfl, rfl⟩ (ht.push _) (by omega) fun h₁ hit₁ hs₁ => ?_))
    have hall : List.take items.size (List.drop 0 items.toList) = items.toList := by
      rw [List.drop_zero]; exact List.take_of_length_le (by simp)
    rw [hall]
    rw [if_neg (by simp)]
    have ht₁ : h₁.IsList l items := (ht.push _).extBut hs₁.extBut hlt
    refine wpAny_bind (wpAny_holding (wpAny_pyNext_list_end hh hit₁ ht₁ (by simp) fun h₂ he₂ => ?_))
    simp only [Option.isSome_none, Bool.false_eq_true, if_false]
    refine wpAny_pure (hQ h₂ fun b o hb e => he₂ b o hb (hs₁.extBut b o hb (Heap.get?_push_of_some _ e)))
theorem assign_Tuple_list {env : PySem.Env} {elts : List Expr} {x1} {pos : Pos} {l : Addr} {items : Array Value} {Q : Unit → Shared → Prop} (hh : A.handled = none) (ht : s.heap.IsList l items)
    (hn : (assignEach elts env).length = items.size) (hstar : (assignEach elts env).findIdx? (·.1) = none)
    (h : ∀ h', Heap.ExtBut s.heap.objs.size s.heap h' → wpAny (model prog w) A (assignInOrder ((assignEach elts env).map (·.2)) items.toList) Q E { s with heap := h' }) :
    wpAny (model prog w) A (assign (.Tuple elts x1 pos) env (.ref l)) Q E s := by
  rw [PyProof.Rows.assign_Tuple]
  refine wpAny_bind (wpAny_standAt ?_)
  unfold unpack
  rw [hn, hstar]
  exact wpAny_bind (wpAny_holding (unpackItems_list hh ht h))
end
section
variable {X : Cx}
def gSeq (K : PySem.W.Frag) (n : Nat) (t : TGs) : TG := fun v σ H Q => ∃ a xs, v = .ref a ∧ (SqT K H a xs ∨ SqL K H a xs) ∧ xs.length = n ∧ t xs σ H Q
theorem pg_seq {es : List Expr} {k : Nat} {pos : Pos} {t : TGs} {n : Nat} (hc : X.calm = true) (h : PGs X es t)
    (hn : (assignEach es X.env).length = n) (hst : (assignEach es X.env).findIdx? (·.1) = none) : PG X (.Tuple es k pos) (gSeq X.K n t) := by
  refine ⟨fun pins s σ H v u Q I r hw => ?_⟩
  obtain ⟨a, xs, e1, hq | hq, hl, hw⟩ := hw
  · exact (pg_tup hc h hn hst).run pins s σ H v u Q I r ⟨a, xs, e1, hq, hl, hw⟩
  · subst e1
    cases r
    obtain ⟨its, rv, ht, hz⟩ := I.list hq
    refine assign_Tuple_list (I.ok.hd hc) ht.isList (by simp [hn, ← hl, rv.length]) hst fun h' hx => ?_
    have I1 : Inv X pins σ H { s with heap := h' } := I.kept (t' := s.toks) fun b o e => hx b o (Nat.ne_of_lt (Heap.lt_size e)) e
    exact h.run pins _ σ H xs _ Q I1 (by simpa using rv) hw
end
end Ev
/-! EvX8 -/
namespace Ev
open PySem PySem.Spec PyProof.Rows L2
/-! ### targets -/
mutual
def gTg (K : PySem.W.Frag) (t : Tg) : TG := match t with
  | .n i => gName i
  | .t ts => gSeq K ts.length (gTgs K ts)
def gTgs (K : PySem.W.Frag) (ts : List Tg) : TGs := match ts with
  | [] => gNil
  | t :: r => gCons (gTg K t) (gTgs K r)
end
mutual
def tgIx (t : Tg) : List Nat := match t with
  | .n i => [i]
  | .t ts => tgIxs ts
def tgIxs (ts : List Tg) : List Nat := match ts with
  | [] => []
  | t :: r => tgIx t ++ tgIxs r
end
theorem ix_get {N : List Str} {x : Str} {i : Nat} (hi : ix N x = some i) : N[i]? = some x := by
  unfold ix at hi
  rw [List.findIdx?_eq_some_iff_getElem] at hi
  obtain ⟨hl, h1, _⟩ := hi
  rw [List.getElem?_eq_getElem hl]
  exact congrArg some (by simpa using h1)
section
variable {X : Cx} {N : List Str} {sc : Scope} (hN : X.N = N) (nd : N.Nodup) (hc : X.calm = true) (hloc : ∀ x, locB sc x = true → Loc X.env.scope x ∧ (X.fn x = true ∨ X.env.scope.names.lookup x = some .local))
include hN nd hc hloc
mutual
theorem pg_of : ∀ (e : Expr) (t : Tg), tgOf N sc e = some t → PG X e (gTg X.K t)
  | .Name x pos, t, h => by
    have h : (if locB sc x = true then (match ix N x with
      | some i => some (Tg.n i)
      | none => none) else none) = some t := h
    split at h
    · rename_i hl
      split at h
      · rename_i i hi
        cases h
        obtain ⟨h1, h2⟩ := hloc x hl
        exact pg_name (by rw [hN]; exact nd) (by rw [hN]; exact ix_get hi) h1 h2
      · cases h
    · cases h
  | .Tuple es k pos, t, h => by
    have h : (match tgsOf N sc es with
      | some ts => some (Tg.t ts)
      | none => none) = some t := h
    split at h
    · rename_i ts hts
      cases h
      obtain ⟨P, hl, hst⟩ := pgs_of es ts hts
      exact pg_seq hc P hl hst
    · cases h
  | .Starred .., _, h => by cases h
  | .List .., _, h => by cases h
  | .Attribute .., _, h => by cases h
  | .Subscript .., _, h => by cases h
  | .BoolOp .., _, h => by cases h
  | .NamedExpr .., _, h => by cases h
  | .BinOp .., _, h => by cases h
  | .UnaryOp .., _, h => by cases h
  | .Lambda .., _, h => by cases h
  | .IfExp .., _, h => by cases h
  | .Dict .., _, h => by cases h
  | .Set .., _, h => by cases h
  | .ListComp .., _, h => by cases h
  | .SetComp .., _, h => by cases h
  | .DictComp .., _, h => by cases h
  | .GeneratorExp .., _, h => by cases h
  | .Await .., _, h => by cases h
  | .Yield .., _, h => by cases h
  | .YieldFrom .., _, h => by cases h
  | .Compare .., _, h => by cases h
  | .Call .., _, h => by cases h
  | .FormattedValue .., _, h => by cases h
  | .JoinedStr .., _, h => by cases h
  | .Constant .., _, h => by cases h
  | .Slice .., _, h => by cases h
theorem pgs_of : ∀ (es : List Expr) (ts : List Tg), tgsOf N sc es = some ts → PGs X es (gTgs X.K ts) ∧ (assignEach es X.env).length = ts.length ∧ (assignEach es X.env).findIdx? (·.1) = none
  | [], ts, h => by
    cases h
    exact ⟨pgs_nil, rfl, rfl⟩
  | e :: es, ts, h => by
    have h : (match tgOf N sc e, tgsOf N sc es with
      | some t, some ts => some (t :: ts)
      | _, _ => none) = some ts := h
    cases e1 : tgOf N sc e with
    | none => rw [e1] at h; cases h
    | some t =>
      cases e2 : tgsOf N sc es with
      | none => rw [e1, e2] at h; cases h
      | some ts' =>
        rw [e1, e2] at h
        cases h
        have P := pg_of e t e1
        obtain ⟨Q, hl, hst⟩ := pgs_of es ts' e2
        have ae : assignEach (e :: es) X.env = (false, assign e X.env) :: assignEach es X.env := by
          cases e <;> first | rfl | cases e1
        refine ⟨pgs_cons P Q (by rw [ae]; rfl), by rw [ae, List.length_cons, List.length_cons, hl], ?_⟩
        rw [ae, List.findIdx?_cons, hst]
        rfl
end
end
section
variable {C : Ctx} {θ : Toks} {F H : Hp} {ow : OwF} {st : Sst}
theorem EnvOk.set {σ : L2.St} {env : Env} (en : EnvOk C θ F H ow σ env) {i : Nat} {t : T} {v : V} (hi : i < env.length) (r : OwnT C θ F H ow (.slot i) t v) : EnvOk C θ F H ow (σ.set i (some v)) (env.set i (some t)) := by
  refine ⟨by rw [List.length_set, List.length_set]; exact en.1, fun j u e => ?_⟩
  by_cases z : i = j
  · subst z
    rw [List.getElem?_set_self hi] at e
    cases e
    exact ⟨v, by rw [List.getElem?_set_self (by rw [← en.1]; exact hi)], r⟩
  · rw [List.getElem?_set_ne z] at e ⊢
    exact en.2 j u e
theorem wipe_in {σ : L2.St} {i : Nat} : ∀ {vs : List Nat}, i ∈ vs → (wipe σ vs)[i]? = if i < σ.length then some none else none
  | v :: vs, h => by
    unfold wipe
    by_cases z : v = i
    · subst z
      rw [List.getElem?_set]
      simp [wipe_length]
    · rw [List.getElem?_set_ne z]
      rcases List.mem_cons.mp h with h | h
      · exact absurd h.symm z
      · exact wipe_in h
theorem wipe_set {σ : L2.St} {i : Nat} {o : Option V} {vs : List Nat} (h : i ∈ vs) : wipe (σ.set i o) vs = wipe σ vs := by
  apply List.ext_getElem?
  intro j
  by_cases hj : j ∈ vs
  · rw [wipe_in hj, wipe_in hj, List.length_set]
  · rw [wipe_out hj, wipe_out hj, List.getElem?_set_ne]
    intro z
    rw [z] at h
    exact hj h
theorem wipe_wipe {σ : L2.St} {vs : List Nat} : wipe (wipe σ vs) vs = wipe σ vs := by
  apply List.ext_getElem?
  intro j
  by_cases hj : j ∈ vs
  · rw [wipe_in hj, wipe_in hj, wipe_length]
  · rw [wipe_out hj]
theorem EnvOk.wipe {σ : L2.St} {env : Env} (en : EnvOk C θ F H ow σ env) (vs : List Nat) : EnvOk C θ F H ow (L2.wipe σ vs) (wipeE env vs) := by
  refine ⟨by unfold wipeE; rw [List.length_mapIdx, wipe_length]; exact en.1, fun j u e => ?_⟩
  unfold wipeE at e
  rw [List.getElem?_mapIdx] at e
  obtain ⟨t, e1, e2⟩ := Option.map_eq_some_iff.mp e
  split at e2
  · cases e2
  · rename_i hc
    subst e2
    obtain ⟨v, ev, r⟩ := en.2 j u e1
    exact ⟨v, by rw [wipe_out (by simpa using hc)]; exact ev, r⟩
variable {K : PySem.W.Frag}
mutual
theorem bind_ok (hK : K = C.K) (le : Le F H) : ∀ (tg : Tg) {d : D} {v : V} {σ : L2.St} {env env1 : Env} {Q : L2.St → Hp → Prop}, bindT tg d env = some env1 → R C θ F d v → EnvOk C θ F H ow σ env →
    (∀ σ1, EnvOk C θ F H ow σ1 env1 → (∀ vs, (∀ i ∈ tgIx tg, i ∈ vs) → wipe σ1 vs = wipe σ vs) → Q σ1 H) → gTg K tg v σ H Q
  | .n i, d, v, σ, env, env1, Q, h, r, en, k => by
    change (if i < env.length then some (env.set i (some (.fz d))) else none) = some env1 at h
    split at h
    · rename_i hi
      cases h
      refine k _ (en.set hi r) fun vs hv => ?_
      exact wipe_set (hv i (by unfold tgIx; simp))
    · cases h
  | .t ts, d, v, σ, env, env1, Q, h, r, en, k => by
    cases d with
    | tup ds =>
      change (if ds.length = ts.length then bindTs ts ds env else none) = some env1 at h
      split at h
      · rename_i hl
        obtain ⟨a, vs, rfl, hq, rr⟩ := r
        exact ⟨a, vs, rfl, .inl (by rw [hK]; exact le.sqt hq), by rw [rr.length, hl], binds_ok hK le ts h hl rr en k⟩
      · cases h
    | lst ds =>
      change (if ds.length = ts.length then bindTs ts ds env else none) = some env1 at h
      split at h
      · rename_i hl
        obtain ⟨a, vs, rfl, hq, rr⟩ := r
        exact ⟨a, vs, rfl, .inr (SqL.of (le.lst hq)), by rw [rr.length, hl], binds_ok hK le ts h hl rr en k⟩
      · cases h
    | _ => cases h
theorem binds_ok (hK : K = C.K) (le : Le F H) : ∀ (tgs : List Tg) {ds : List D} {vs : List V} {σ : L2.St} {env env1 : Env} {Q : L2.St → Hp → Prop}, bindTs tgs ds env = some env1 → ds.length = tgs.length → Rs C θ F ds vs → EnvOk C θ F H ow σ env →
    (∀ σ1, EnvOk C θ F H ow σ1 env1 → (∀ vs, (∀ i ∈ tgIxs tgs, i ∈ vs) → wipe σ1 vs = wipe σ vs) → Q σ1 H) → gTgs K tgs vs σ H Q
  | [], ds, vs, σ, env, env1, Q, h, hl, r, en, k => by
    cases h
    cases ds with
    | nil => cases (show vs = [] from r); exact ⟨rfl, k σ en fun _ _ => rfl⟩
    | cons _ _ => cases hl
  | tg :: tgs, ds, vs, σ, env, env1, Q, h, hl, r, en, k => by
    cases ds with
    | nil => cases hl
    | cons d ds =>
      change (match bindT tg d env with
        | some env' => bindTs tgs ds env'
        | none => none) = some env1 at h
      cases e1 : bindT tg d env with
      | none => rw [e1] at h; cases h
      | some env' =>
        rw [e1] at h
        obtain ⟨v, vs', rfl, rv, rr⟩ := r
        refine ⟨v, vs', rfl, ?_⟩
        refine bind_ok hK le tg e1 rv en fun σ1 en1 w1 => ?_
        refine binds_ok hK le tgs h (by simpa using hl) rr en1 fun σ2 en2 w2 => ?_
        refine k σ2 en2 fun vs hv => ?_
        rw [w2 vs (fun i hi => hv i (by unfold tgIxs; exact List.mem_append_right _ hi)), w1 vs (fun i hi => hv i (by unfold tgIxs; exact List.mem_append_left _ hi))]
end
end
end Ev
/-! EvW -/
namespace Ev
open PySem PySem.Spec PyProof.Rows L2
section
variable {C : Ctx} {cf : CallF} {X : Cx}
theorem n_var {N : List Str} {x : Str} {i : Nat} {pos : Pos} (hN : X.N = N) (hi : ix N x = some i) (hv : visB X.env.scope x = true) (ho : okN x = true) : PE X (.Name x pos) (tVar i) := by
  have h1 : X.N[i]? = some x := by rw [hN]; exact ix_get hi
  have h2 : Vis X.env.scope x := by
    unfold visB at hv
    split at hv
    · left; assumption
    · right; left; assumption
    · right; right; assumption
    · cases hv
  unfold okN at ho
  simp only [Bool.and_eq_true, Bool.not_eq_true'] at ho
  exact pe_var h1 h2 ho.1.1.1 ho.1.1.2
theorem ints_can : ∀ (l : List Int), PyData.canLayAll0 (l.map PyData.int) = true ∧ PyData.depthAll (l.map PyData.int) ≤ 1
  | [] => ⟨rfl, Nat.zero_le _⟩
  | i :: l => by
    obtain ⟨h1, h2⟩ := ints_can l
    refine ⟨?_, ?_⟩
    · simp [PyData.canLayAll0, PyData.canLay0] at h1 ⊢
      exact h1
    · simp only [List.map_cons, PyData.depthAll, PyData.depth]
      omega
theorem ints_rs {θ : Toks} {F : Hp} : ∀ (l : List Int), Rs C θ F (l.map D.int) (l.map V.int)
  | [] => rfl
  | i :: l => ⟨.int i, l.map V.int, rfl, rfl, ints_rs l⟩
theorem ints_ps : ∀ (l : List Int), toPs (l.map D.int) = some (l.map PyData.int)
  | [] => rfl
  | i :: l => by
    show (match toP (D.int i), toPs (l.map D.int) with
      | some p, some ps => some (p :: ps)
      | _, _ => none) = _
    rw [ints_ps l]
    rfl
/-- a name that is the stream -/
theorem tok_at {θ : Toks} {F H : Hp} {ow : OwF} {σ : L2.St} {env : Env} (en : EnvOk C θ F H ow σ env) {i : Nat} (h : isTok env i = true) : ∃ p, σ[i]? = some (some (.ref p)) ∧ θ 0 = some p := by
  unfold isTok at h
  split at h
  · rename_i n e
    have hn : n = 0 := of_decide_eq_true h
    subst hn
    unfold lookV at e
    split at e
    · rename_i t e2
      obtain ⟨v, ev, r⟩ := en.2 i _ e2
      cases t with
      | fz d =>
        have e : some d = some (D.tok 0) := e
        cases e
        obtain ⟨p, hp, rfl⟩ := r
        exact ⟨p, ev, hp⟩
      | ol _ => cases e
      | od _ => cases e
      | oo _ _ => cases e
    · cases e
  · cases h
/-- the cells are written -/
theorem cells_put {θ : Toks} {F H : Hp} {ow : OwF} {s8 : S8} (ok : Hok θ F H ow (some s8)) {s l : Addr} (h0 : θ 0 = some s) (hs : s ≠ l) (h1 : H s = some (.lst [.ref l, .int s8.a, .int s8.b, .int s8.c])) (h2 : ow s = some .strm) (h3 : ow l = some .strm) (r : List Int) :
    Hok θ F (upd H l (.lst (r.map V.int))) ow (some { s8 with cells := r }) ∧ Stp θ F H ow θ F (upd H l (.lst (r.map V.int))) ow := by
  have nF : ∀ b u, F b = some u → b ≠ l := fun b u e z => by subst z; rw [ok.sep b u e] at h3; cases h3
  refine ⟨⟨fun b u e => by rw [upd_ne (nF b u e)]; exact ok.le b u e, ok.sep, fun b k e => ?_, s, l, h0, hs, by rw [upd_ne hs]; exact h1, upd_same, h2, h3⟩, ⟨Tle.refl _, fun _ _ e => e, fun b u e z => ?_, fun _ _ _ => rfl, fun _ _ _ _ _ e => e⟩⟩
  · by_cases z : b = l
    · subst z; exact ⟨_, upd_same, fun _ z => by cases z⟩
    · rw [upd_ne z]; exact ok.liv b k e
  · rw [upd_ne (fun q => z (by rw [q]; exact h3))]; exact e
/-- the stream's record is written -/
theorem strm_put {θ : Toks} {F H : Hp} {ow : OwF} {s8 s9 : S8} (ok : Hok θ F H ow (some s8)) {s l : Addr} (h0 : θ 0 = some s) (hs : s ≠ l) (h1 : H l = some (.lst (s8.cells.map V.int))) (h2 : ow s = some .strm) (h3 : ow l = some .strm) (hc : s9.cells = s8.cells) :
    Hok θ F (upd H s (.lst [.ref l, .int s9.a, .int s9.b, .int s9.c])) ow (some s9) ∧ Stp θ F H ow θ F (upd H s (.lst [.ref l, .int s9.a, .int s9.b, .int s9.c])) ow := by
  have nF : ∀ b u, F b = some u → b ≠ s := fun b u e z => by subst z; rw [ok.sep b u e] at h2; cases h2
  refine ⟨⟨fun b u e => by rw [upd_ne (nF b u e)]; exact ok.le b u e, ok.sep, fun b k e => ?_, s, l, h0, hs, upd_same, by rw [upd_ne (Ne.symm hs), hc]; exact h1, h2, h3⟩, ⟨Tle.refl _, fun _ _ e => e, fun b u e z => ?_, fun _ _ _ => rfl, fun _ _ _ _ _ e => e⟩⟩
  · by_cases z : b = s
    · subst z; exact ⟨_, upd_same, fun _ z => by cases z⟩
    · rw [upd_ne z]; exact ok.liv b k e
  · rw [upd_ne (fun q => z (by rw [q]; exact h2))]; exact e
theorem spop_inv {i : Nat} {env : Env} {st st1 : Sst} {d : D} (ev : evI cf env (.spop i) st = some (d, st1)) : isTok env i = true ∧ ∃ s c r, st = some s ∧ s.cells = c :: r ∧ fits s.cells.length = true ∧ d = .int c ∧ st1 = some { s with cells := r } := by
  unfold evI at ev
  split at ev
  · rename_i ht
    refine ⟨ht, ?_⟩
    cases st with
    | none => cases ev
    | some s =>
      simp only at ev
      cases hc : s.cells with
      | nil => rw [hc] at ev; cases ev
      | cons c r =>
        rw [hc] at ev
        simp only at ev
        split at ev
        · rename_i hf
          cases ev
          exact ⟨s, c, r, rfl, hc, by rw [hc]; exact hf, rfl, rfl⟩
        · cases ev
  · cases ev
theorem e_spop {N : List Str} {x : Str} {i : Nat} {px p0 p1 ap p2 cp : Pos} {j0 j1 : Nat} (hN : X.N = N) (hi : ix N x = some i) (hv : visB X.env.scope x = true) (ho : okN x = true) (hl : (ap.endLine == cp.line) = true) :
    EOk C cf X (.Call (.Attribute (.Subscript (.Name x px) (.Constant (.int 0) j0 p0) p1) "pop" ap) [.Constant (.int 0) j1 p2] [] cp) (.spop i) := by
  intro θ F H ow st σ env d st1 Q ok en ev k
  obtain ⟨ht, s8, c, r, rfl, hc, hf, rfl, rfl⟩ := spop_inv ev
  obtain ⟨p, eσ, hp⟩ := tok_at en ht
  obtain ⟨s, l, q1, q2, q3, q4, q5, q6⟩ := ok.str
  rw [hp] at q1
  cases q1
  refine se (pe_bm PySem.F.plainAttrs_list PySem.F.slot_list_pop PySem.F.type_list_pop mt_popAt (pe_ix ix_list (n_var hN hi hv ho) pe_int (plain_ix rfl)) (pa_cons pe_int pa_nil rfl) (att_base rfl _ _) rfl hl rfl rfl) ?_
  refine ⟨.ref p, eσ, p, _, 0, .ref l, rfl, rfl, SqL.of q3, rfl, ?_⟩
  refine ⟨.inl ⟨rfl, _, SqL.of q4⟩, ?_⟩
  obtain ⟨o1, t1⟩ := cells_put ok hp q2 q3 q5 q6 r
  refine ⟨l, _, 0, 0, .int c, rfl, rfl, q4, by decide, by decide, ?_, by rw [hc]; rfl, ?_⟩
  · rw [hc]; simp [seqIndex?]
  · have e : (s8.cells.map V.int).eraseIdx 0 = r.map V.int := by rw [hc]; rfl
    rw [e]
    exact k _ θ F _ ow t1 o1 rfl
theorem ncells_inv {i : Nat} {env : Env} {st st1 : Sst} {d : D} (ev : evI cf env (.ncells i) st = some (d, st1)) : isTok env i = true ∧ ∃ s, st = some s ∧ d = .bl (!s.cells.isEmpty) ∧ st1 = st := by
  unfold evI at ev
  split at ev
  · rename_i ht
    refine ⟨ht, ?_⟩
    cases st with
    | none => cases ev
    | some s => cases ev; exact ⟨s, rfl, rfl, rfl⟩
  · cases ev
theorem ncells_run {N : List Str} {x : Str} {i : Nat} {px p0 p1 p2 : Pos} {j0 : Nat} (hK : X.K = C.K) (hN : X.N = N) (hi : ix N x = some i) (hv : visB X.env.scope x = true) (ho : okN x = true) {θ : Toks} {F H : Hp} {ow : OwF} {st st1 : Sst} {σ : L2.St} {env : Env} {d : D} {Q : VK}
    (ok : Hok θ F H ow st) (en : EnvOk C θ F H ow σ env) (ev : evI cf env (.ncells i) st = some (d, st1)) (k : ∀ z θ' F' H' ow', d = .bl z → Stp θ F H ow θ' F' H' ow' → Hok θ' F' H' ow' st1 → Q (.bl z) H') :
    tOp (rCmp C .NotEq) (tOp (rIxL X.K) (tVar i) (tC (.int 0))) (tLst tNil) σ H Q := by
  obtain ⟨ht, s8, rfl, rfl, rfl⟩ := ncells_inv ev
  obtain ⟨p, eσ, hp⟩ := tok_at en ht
  obtain ⟨s, l, q1, q2, q3, q4, q5, q6⟩ := ok.str
  rw [hp] at q1
  cases q1
  refine ⟨.ref p, eσ, p, _, 0, .ref l, rfl, rfl, SqL.of q3, rfl, ?_⟩
  refine ⟨Nat.zero_le _, fun b hb => ?_⟩
  obtain ⟨o1, t1⟩ := ok.laid (o := .lst []) hb
  have hl : l ≠ b := fun z => by rw [z, hb] at q4; cases q4
  obtain ⟨h1, h2⟩ := ints_can s8.cells
  refine ⟨θ, F, upd H b (.lst []), .lst (s8.cells.map D.int), .lst [], o1.le, Le.refl _, ⟨l, _, rfl, by rw [upd_ne hl]; exact q4, ints_rs _⟩, ⟨b, [], rfl, upd_same, rfl⟩, !s8.cells.isEmpty, ?_, k _ θ F _ ow rfl t1 o1⟩
  show (pEq (.lst (s8.cells.map D.int)) (.lst [])).map (!·) = _
  have e1 : toP (.lst (s8.cells.map D.int)) = some (.list (s8.cells.map PyData.int)) := by
    show (toPs (s8.cells.map D.int)).map PyData.list = _
    rw [ints_ps]
    rfl
  have e2 : toP (.lst []) = some (.list []) := rfl
  unfold pEq
  rw [e1, e2]
  have s1 : SeqAt.shaped (.list (s8.cells.map PyData.int)) = true := by
    have hd : (PyData.list (s8.cells.map PyData.int)).depth = PyData.depthAll (s8.cells.map PyData.int) + 1 := by rw [PyData.depth]
    have hcn : (PyData.list (s8.cells.map PyData.int)).canLay0 = true := by rw [PyData.canLay0]; exact h1
    have hd2 : (PyData.list (s8.cells.map PyData.int)).depth ≤ 64 := by rw [hd]; exact Nat.le_trans (Nat.add_le_add_right h2 1) (by decide)
    unfold SeqAt.shaped
    rw [hcn, Bool.true_and]
    exact decide_eq_true hd2
  have s2 : SeqAt.shaped (.list []) = true := by decide
  simp only [s1, s2, Bool.and_self, if_true, Option.map_some]
  cases s8.cells with
  | nil => rfl
  | cons c r => rfl
theorem e_ncells {N : List Str} {x : Str} {i : Nat} {px p0 p1 p2 pos : Pos} {j0 : Nat} (hK : X.K = C.K) (hu : X.A.units + 200 < cLine) (hN : X.N = N) (hi : ix N x = some i) (hv : visB X.env.scope x = true) (ho : okN x = true) :
    EOk C cf X (.Compare (.Subscript (.Name x px) (.Constant (.int 0) j0 p0) p1) [.NotEq] [.List [] p2] pos) (.ncells i) ∧ COk C cf X (.Compare (.Subscript (.Name x px) (.Constant (.int 0) j0 p0) p1) [.NotEq] [.List [] p2] pos) (.ncells i) := by
  constructor
  · intro θ F H ow st σ env d st1 Q ok en ev k
    refine se (pe_cmpR (op_cmp hK (by omega) .NotEq) (pe_ix ix_list (n_var hN hi hv ho) pe_int (plain_ix rfl)) (pe_lst pa_nil) rfl) ?_
    exact ncells_run (px := px) (p0 := p0) (p1 := p1) (p2 := p2) (j0 := j0) hK hN hi hv ho ok en ev fun z θ' F' H' ow' e s o => k _ θ' F' H' ow' s o (by rw [e]; rfl)
  · intro θ F H ow st σ env d st1 Q ok en ev k
    refine sc' (pt_cmpR (op_cmp hK (by omega) .NotEq) (pe_ix ix_list (n_var hN hi hv ho) pe_int (plain_ix rfl)) (pe_lst pa_nil) rfl) ?_
    exact ncells_run (px := px) (p0 := p0) (p1 := p1) (p2 := p2) (j0 := j0) hK hN hi hv ho ok en ev fun z θ' F' H' ow' e s o => ⟨z, rfl, by cases e; exact k θ' F' H' ow' s o⟩
end
end Ev
/-! EvX9 -/
namespace Ev
open PySem PySem.Spec PyProof.Rows L2
/-! ### comprehensions -/
theorem rel_keep {sc : Scope} : ∀ {names : List (Str × NameKind)} {x : Str} {k : NameKind}, names.lookup x = some k → k ≠ .free →
    (names.map fun (n, k) => if (k == NameKind.free && sc.kind == .function && sc.names.lookup n == some .cell) then (n, NameKind.cell) else (n, k)).lookup x = some k
  | [], _, _, h, _ => by cases h
  | (n, k') :: r, x, k, h, hk => by
    have ih := @rel_keep sc r x k
    rw [List.map_cons]
    rw [List.lookup_cons] at h
    show List.lookup x ((if (k' == NameKind.free && sc.kind == .function && sc.names.lookup n == some .cell) = true then (n, NameKind.cell) else (n, k')) :: _) = _
    cases hb : x == n with
    | true =>
      rw [hb] at h
      cases h
      have : (k' == NameKind.free) = false := by cases k' <;> first | rfl | exact absurd rfl hk
      rw [this]
      simp only [Bool.false_and, Bool.false_eq_true, if_false]
      rw [List.lookup_cons, hb]
    | false =>
      rw [hb] at h
      cases hq : (k' == NameKind.free && sc.kind == .function && sc.names.lookup n == some .cell) with
      | true =>
        rw [if_pos rfl, List.lookup_cons, hb]
        exact ih h hk
      | false =>
        rw [if_neg (by decide), List.lookup_cons, hb]
        exact ih h hk
section
variable {C : Ctx} {cf : CallF} {X : Cx}
/-- in every block of the comprehension -/
def SemBE (X : Cx) (scope : Scope) (e : Expr) : TE := fun σ H Q => ∀ (s : Shared) (H0 : Hp) (c : Addr) (cl : List (Str × Addr)) (fp : List Addr), SemE (X.blk s H0 scope (compEnvC scope cl c X.env) fp) e σ H Q
def SemBC (X : Cx) (scope : Scope) (e : Expr) : TT := fun σ H Q => ∀ (s : Shared) (H0 : Hp) (c : Addr) (cl : List (Str × Addr)) (fp : List Addr), SemC (X.blk s H0 scope (compEnvC scope cl c X.env) fp) e σ H Q
theorem pbe {scope : Scope} {e : Expr} (s : Shared) (H : Hp) (c : Addr) (cl : List (Str × Addr)) (fp : List Addr) : PE (X.blk s H scope (compEnvC scope cl c X.env) fp) e (SemBE X scope e) := ⟨fun pins s' _ _ _ I h => h s H c cl fp pins s' I⟩
theorem pbc {scope : Scope} {e : Expr} (s : Shared) (H : Hp) (c : Addr) (cl : List (Str × Addr)) (fp : List Addr) : PT (X.blk s H scope (compEnvC scope cl c X.env) fp) e (SemBC X scope e) := ⟨fun pins s' _ _ _ I h => h s H c cl fp pins s' I⟩
/-- the soundness of a text in every block -/
def EBOk (C : Ctx) (cf : CallF) (X : Cx) (scope : Scope) (e : Expr) (i : Ir) : Prop := ∀ (s : Shared) (H0 : Hp) (c : Addr) (cl : List (Str × Addr)) (fp : List Addr), EOk C cf (X.blk s H0 scope (compEnvC scope cl c X.env) fp) e i
def CBOk (C : Ctx) (cf : CallF) (X : Cx) (scope : Scope) (e : Expr) (i : Ir) : Prop := ∀ (s : Shared) (H0 : Hp) (c : Addr) (cl : List (Str × Addr)) (fp : List Addr), COk C cf (X.blk s H0 scope (compEnvC scope cl c X.env) fp) e i
theorem EBOk.run {scope : Scope} {e : Expr} {i : Ir} (h : EBOk C cf X scope e i) {θ : Toks} {F H : Hp} {ow : OwF} {st st1 : Sst} {σ : L2.St} {env : Env} {d : D} {Q : VK} (ok : Hok θ F H ow st) (en : EnvOk C θ F H ow σ env) (ev : evI cf env i st = some (d, st1))
    (k : ∀ v θ' F' H' ow', Stp θ F H ow θ' F' H' ow' → Hok θ' F' H' ow' st1 → R C θ' F' d v → Q v H') : SemBE X scope e σ H Q := fun s H0 c cl fp => h s H0 c cl fp θ F H ow st σ env d st1 Q ok en ev k
def tTests (X : Cx) (scope : Scope) (ifs : List Expr) : TT := match ifs with
  | [] => tYes
  | c :: _ => SemBC X scope c
theorem tests_run {scope : Scope} {ifs : List Expr} {ic : List Ir} (h : Paired (CBOk C cf X scope) ifs ic) (hl : ifs.length ≤ 1) {θ : Toks} {F H : Hp} {ow : OwF} {st st1 : Sst} {σ : L2.St} {env : Env} {b : Bool} {Q : Bool → Hp → Prop} (ok : Hok θ F H ow st) (en : EnvOk C θ F H ow σ env) (ev : evT cf env ic st = some (b, st1))
    (k : ∀ θ' F' H' ow', Stp θ F H ow θ' F' H' ow' → Hok θ' F' H' ow' st1 → Q b H') : tTests X scope ifs σ H Q := by
  cases h with
  | nil =>
    cases (show some (true, st) = some (b, st1) from ev)
    exact k θ F H ow Stp.refl ok
  | cons q r =>
    cases r with
    | cons _ _ => simp at hl
    | nil =>
      rename_i c i
      intro s H0 c' cl fp
      unfold evT at ev
      split at ev
      · rename_i s1 e1
        cases (show some (true, s1) = some (b, st1) from ev)
        exact q s H0 c' cl fp θ F H ow st σ env true _ Q ok en e1 k
      · rename_i s1 e1
        cases ev
        exact q s H0 c' cl fp θ F H ow st σ env false _ Q ok en e1 k
      · cases ev
theorem ptests {scope : Scope} {ifs : List Expr} (hl : ifs.length ≤ 1) (s : Shared) (H : Hp) (c : Addr) (cl : List (Str × Addr)) (fp : List Addr) : PTs (X.blk s H scope (compEnvC scope cl c X.env) fp) ifs (tTests X scope ifs) := by
  match ifs, hl with
  | [], _ => exact pts_nil
  | [c'], _ => exact pts_one (pbc s H c cl fp)
  | _ :: _ :: _, hl => simp at hl
/-- one turn's run of lcGo -/
theorem lcGo_cons {bd : D → Option Env} {tst : Env → Sst → Option (Bool × Sst)} {el : Env → Sst → Option (D × Sst)} {x : D} {xs : List D} {st st2 : Sst} {rs : List D} (h : lcGo bd tst el (x :: xs) st = some (rs, st2)) :
    ∃ env, bd x = some env ∧ ∃ b s1, tst env st = some (b, s1) ∧ ((b = false ∧ lcGo bd tst el xs s1 = some (rs, st2)) ∨ (b = true ∧ ∃ d s2 rs', el env s1 = some (d, s2) ∧ lcGo bd tst el xs s2 = some (rs', st2) ∧ rs = d :: rs')) := by
  unfold lcGo at h
  cases e1 : bd x with
  | none => rw [e1] at h; cases h
  | some env =>
    rw [e1] at h
    simp only at h
    refine ⟨env, rfl, ?_⟩
    cases e2 : tst env st with
    | none => rw [e2] at h; cases h
    | some p =>
      obtain ⟨b, s1⟩ := p
      rw [e2] at h
      refine ⟨b, s1, rfl, ?_⟩
      cases b with
      | false => exact .inl ⟨rfl, h⟩
      | true =>
        simp only at h
        cases e3 : el env s1 with
        | none => rw [e3] at h; cases h
        | some p =>
          obtain ⟨d, s2⟩ := p
          rw [e3] at h
          simp only at h
          cases e4 : lcGo bd tst el xs s2 with
          | none => rw [e4] at h; cases h
          | some p =>
            obtain ⟨rs', s3⟩ := p
            rw [e4] at h
            cases h
            exact .inr ⟨rfl, d, s2, rs', rfl, e4, rfl⟩
theorem comp_pg {tg : Expr} {scope : Scope} {N : List Str} {t : Tg} (hN : X.N = N) (nd : N.Nodup) (hc : X.calm = true) (ht : tgOf N scope tg = some t) : ∀ (s : Shared) (H : Hp) (c : Addr) (cl : List (Str × Addr)) (fp : List Addr), PG (X.blk s H scope (compEnvC scope cl c X.env) fp) tg (gTg X.K t) := fun s H c cl fp => by
  refine pg_of (X := X.blk s H scope (compEnvC scope cl c X.env) fp) (N := N) (sc := scope) hN nd hc (fun x hx => ?_) tg t ht
  have hsc : (X.blk s H scope (compEnvC scope cl c X.env) fp).env.scope = relS scope X.env.scope := rfl
  have keep : ∀ k, scope.names.lookup x = some k → k ≠ .free → (relS scope X.env.scope).names.lookup x = some k := fun k h hk => rel_keep h hk
  unfold locB at hx
  split at hx
  · rename_i hl
    have := keep _ hl (by decide)
    exact ⟨.inl (by rw [hsc]; exact this), .inr (by rw [hsc]; exact this)⟩
  · rename_i hl
    have := keep _ hl (by decide)
    refine ⟨.inr (by rw [hsc]; exact this), .inl ?_⟩
    show (scope.names.lookup x == some .cell) = true
    rw [hl]
    rfl
  · cases hx
theorem lc_run {tg it elt : Expr} {ifs : List Expr} {scope : Scope} {own : List (Str × Nat)} {N : List Str} {t : Tg} {im : Im} {es : List Expr} {is ic : List Ir} {ie : Ir} (hK : X.K = C.K) (hN : X.N = N) (nd : N.Nodup) (hc : X.calm = true) (ok0 : BlkOk N X.env.scope scope own)
    (ht : tgOf N scope tg = some t) (hix : ∀ i ∈ tgIx t, i ∈ own.map (·.2)) (hit : IRun C X tg it im es)
    (hes : ∀ θ F H ow st σ env ds st1 Q, Hok θ F H ow st → EnvOk C θ F H ow σ env → evLB cf env is st = some (ds, st1) → (∀ vs θ' F' H' ow', Stp θ F H ow θ' F' H' ow' → Hok θ' F' H' ow' st1 → RBs C θ' F' (Hn ow' H') ds vs → Q vs H') → SemL X im es σ H Q)
    (hifs : Paired (CBOk C cf X scope) ifs ic) (hil : ifs.length ≤ 1) (he : EBOk C cf X scope elt ie) (hfs : ∀ x, foldedSetIterable it X.env x = pure x) :
    ∀ θ F H ow st σ env tt st1 Q, Hok θ F H ow st → EnvOk C θ F H ow σ env → evTop cf env (.lc (own.map (·.2)) t im is ic ie) st = some (tt, st1) →
      (∀ v θ' F' H' ow', Stp θ F H ow θ' F' H' ow' → Hok θ' F' H' ow' st1 → ResT C θ' F' H' ow' H tt v → Q v H') → tLc (SemI X tg it) (gTg X.K t) (tTests X scope ifs) (SemBE X scope elt) (own.map (·.2)) σ H Q := by
  intro θ F H ow st σ env tt st1 Q ok en ev k
  rw [evTop_not rfl] at ev
  have ex : ∃ ds s1 xs rs, evLB cf env is st = some (ds, s1) ∧ itD im ds = some xs ∧ lcGo (fun d => bindT t d (wipeE env (own.map (·.2)))) (fun env' s => evT cf env' ic s) (fun env' s => evI cf env' ie s) xs s1 = some (rs, st1) ∧ fits rs.length = true ∧ tt = .ol rs := by
    cases e1 : evLB cf env is st with
    | none => unfold evI at ev; rw [e1] at ev; cases ev
    | some p =>
      obtain ⟨ds, s1⟩ := p
      unfold evI at ev
      rw [e1] at ev
      simp only at ev
      cases e2 : itD im ds with
      | none => rw [e2] at ev; cases ev
      | some xs =>
        rw [e2] at ev
        simp only at ev
        cases e3 : lcGo (fun d => bindT t d (wipeE env (own.map (·.2)))) (fun env' s => evT cf env' ic s) (fun env' s => evI cf env' ie s) xs s1 with
        | none => rw [e3] at ev; cases ev
        | some p =>
          obtain ⟨rs, s2⟩ := p
          rw [e3] at ev
          simp only at ev
          by_cases hf : fits rs.length = true
          · rw [if_pos hf] at ev
            cases ev
            exact ⟨ds, s1, xs, rs, rfl, e2, e3, hf, rfl⟩
          · rw [if_neg hf] at ev
            cases ev
  obtain ⟨ds, s1, xs, rs, e1, e2, e3, hf, rfl⟩ := ex
  refine hit σ H _ ?_
  refine hes θ F H ow st σ env ds s1 _ ok en e1 fun vs θ1 F1 H1 ow1 t1 o1 r1 => ?_
  refine ⟨θ1, F1, ow1, s1, ds, xs, o1, r1, e2, fun J hJ Da hD => ?_⟩
  have enw : EnvOk C θ1 F1 H1 ow1 (wipe σ (own.map (·.2))) (wipeE env (own.map (·.2))) := (en.stp t1).wipe _
  let W : Nat → Nat → Hp → Prop := fun i m H => m + i = xs.length ∧ ∃ θ2 F2 ow2 s2 acc accv rest, Stp θ1 F1 H1 ow1 θ2 F2 H ow2 ∧ Hok θ2 F2 H ow2 s2 ∧ F2 Da = none ∧ ow2 Da = none ∧ H Da = some (.lst accv) ∧ Rs C θ2 F2 acc accv ∧
    lcGo (fun d => bindT t d (wipeE env (own.map (·.2)))) (fun env' s => evT cf env' ic s) (fun env' s => evI cf env' ie s) (xs.drop i) s2 = some (rest, st1) ∧ acc ++ rest = rs
  refine ⟨W, ⟨xs.length, rfl, ?_⟩, ?_⟩
  · obtain ⟨o2, t2⟩ := o1.laid (o := .lst []) hD
    exact ⟨θ1, F1, ow1, s1, [], [], rs, t2, o2, o1.noF hD, o1.noO hD, upd_same, rfl, e3, rfl⟩
  · rintro i m H2 ⟨hm, θ2, F2, ow2, s2, acc, accv, rest, t2, o2, hF, hO, hH, ra, eg, ers⟩
    have rv : RBs C θ2 F2 (Hn ow2 H2) ds vs := RBs.mono t2.leN t2.leF t2.th r1
    have V := hJ θ2 F2 H2 ow2 s2 o2 rv i
    cases m with
    | zero =>
      have hi : xs.length = i := by omega
      refine .inl ⟨V.1 hi, ?_⟩
      rw [List.drop_eq_nil_of_le (Nat.le_of_eq hi)] at eg
      cases (show some (([] : List D), s2) = some (rest, st1) from eg)
      rw [List.append_nil] at ers
      subst ers
      exact k _ θ2 F2 H2 ow2 (t1.trans o1 t2) o2 ⟨Da, accv, rfl, t1.none o1 Da hD, hF, hO, hH, ra⟩
    | succ m =>
      have hi : i < xs.length := by omega
      have hx : xs[i]? = some xs[i] := List.getElem?_eq_getElem hi
      obtain ⟨hgo, hy⟩ := V.2 _ hx
      rw [List.drop_eq_getElem_cons hi] at eg
      obtain ⟨env', eb, b, s3, et, hb⟩ := lcGo_cons eg
      refine .inr ⟨hgo, fun H' => W (i + 1) m H', fun H' h => ⟨m, Nat.lt_succ_self _, h⟩, fun x H3 hyl => ?_⟩
      obtain ⟨F3, t3, o3, r3⟩ := hy x H3 hyl
      have enw3 : EnvOk C θ2 F3 H3 ow2 (wipe σ (own.map (·.2))) (wipeE env (own.map (·.2))) := (enw.stp t2).stp t3
      refine bind_ok hK o3.le t eb r3 enw3 fun σ1 en1 w1 => ⟨(w1 _ hix).trans wipe_wipe, ?_⟩
      refine tests_run hifs hil o3 en1 et fun θ4 F4 H4 ow4 t4 o4 => ?_
      have t34 := t3.trans o3 t4
      have live : ∀ {θ' F' H' ow' s'}, Stp θ2 F2 H2 ow2 θ' F' H' ow' → Hok θ' F' H' ow' s' → F' Da = none ∧ ow' Da = none ∧ H' Da = some (.lst accv) := fun t' o' =>
        ⟨t'.fn Da _ hH (fun _ z => by cases z) (by rw [hO]; exact fun z => by cases z) hF, (t'.oo Da _ hH).trans hO, t'.ex Da _ hH (by rw [hO]; exact fun z => by cases z)⟩
      rcases hb with ⟨rfl, eg'⟩ | ⟨rfl, d, s4, rs', ed, eg', hrest⟩
      · obtain ⟨l1, l2, l3⟩ := live t34 o4
        exact ⟨by omega, θ4, F4, ow4, s3, acc, accv, rest, t2.trans o2 t34, o4, l1, l2, l3, Rs.mono t34.leF t34.th _ _ ra, eg', ers⟩
      · show SemBE X scope elt σ1 H4 _
        refine he.run o4 (en1.stp t4) ed fun y θ5 F5 H5 ow5 t5 o5 r5 => ?_
        have t345 := t34.trans o4 t5
        obtain ⟨l1, l2, l3⟩ := live t345 o5
        have hlen : accv.length < sizeLine := by
          have h1 := fits_ok hf
          rw [← ers, hrest, List.length_append, List.length_cons] at h1
          have := ra.length
          omega
        refine ⟨accv, l3, hlen, ?_⟩
        obtain ⟨o6, t6⟩ := chg (o := .lst (accv ++ [y])) o5 (t2.trans o2 t345) hD l1 (by rw [l2]; exact fun z => by cases z)
        refine ⟨by omega, θ5, F5, ow5, s4, acc ++ [d], accv ++ [y], rs', t6, o6, l1, l2, upd_same, ?_, eg', by rw [← ers, hrest, List.append_assoc]; rfl⟩
        exact (Rs.mono t345.leF t345.th _ _ ra).app ⟨y, [], rfl, r5, rfl⟩
theorem e_lc {tg it elt : Expr} {ifs : List Expr} {scope : Scope} {own : List (Str × Nat)} {pos : Pos} {N : List Str} {t : Tg} {im : Im} {es : List Expr} {is ic : List Ir} {ie : Ir} (hK : X.K = C.K) (hN : X.N = N) (nd : N.Nodup) (hc : X.calm = true) (ok0 : BlkOk N X.env.scope scope own)
    (ht : tgOf N scope tg = some t) (hix : ∀ i ∈ tgIx t, i ∈ own.map (·.2)) (hit : IRun C X tg it im es)
    (hes : ∀ θ F H ow st σ env ds st1 Q, Hok θ F H ow st → EnvOk C θ F H ow σ env → evLB cf env is st = some (ds, st1) → (∀ vs θ' F' H' ow', Stp θ F H ow θ' F' H' ow' → Hok θ' F' H' ow' st1 → RBs C θ' F' (Hn ow' H') ds vs → Q vs H') → SemL X im es σ H Q)
    (hifs : Paired (CBOk C cf X scope) ifs ic) (hil : ifs.length ≤ 1) (he : EBOk C cf X scope elt ie) (hfs : ∀ x, foldedSetIterable it X.env x = pure x) :
    TOk C cf X (.ListComp elt [⟨tg, it, ifs, 0⟩] scope pos) (.lc (own.map (·.2)) t im is ic ie) := by
  intro θ F H ow st σ env tt st1 Q ok en ev k
  exact se (pe_lc (g := gTg X.K t) (tt := tTests X scope ifs) (te := SemBE X scope elt) hc (by rw [hN]; exact nd) pi_sem (by rw [hN]; exact ok0) (comp_pg hN nd hc ht) (fun s H c cl fp => ptests hil s H c cl fp) (fun s H c cl fp => pbe s H c cl fp) hfs) (lc_run hK hN nd hc ok0 ht hix hit hes hifs hil he hfs θ F H ow st σ env tt st1 Q ok en ev k)
end
end Ev
/-! EvXA -/
namespace Ev
open PySem PySem.Spec PyProof.Rows L2
section
variable {C : Ctx} {cf : CallF} {X : Cx}
/-- one turn's run of dcGo -/
theorem dcGo_cons {bd : D → Option Env} {tst : Env → Sst → Option (Bool × Sst)} {ke ve : Env → Sst → Option (D × Sst)} {x : D} {xs : List D} {acc : List (D × D)} {st st2 : Sst} {rs : List (D × D)} (h : dcGo bd tst ke ve (x :: xs) acc st = some (rs, st2)) :
    ∃ env, bd x = some env ∧ ∃ b s1, tst env st = some (b, s1) ∧ ((b = false ∧ dcGo bd tst ke ve xs acc s1 = some (rs, st2)) ∨ (b = true ∧ ∃ k s2 v s3, ke env s1 = some (k, s2) ∧ ve env s2 = some (v, s3) ∧ keysK acc k = true ∧ fits (acc.length + 1) = true ∧ dcGo bd tst ke ve xs (dPut acc k v) s3 = some (rs, st2))) := by
  unfold dcGo at h
  cases e1 : bd x with
  | none => rw [e1] at h; cases h
  | some env =>
    rw [e1] at h
    simp only at h
    refine ⟨env, rfl, ?_⟩
    cases e2 : tst env st with
    | none => rw [e2] at h; cases h
    | some p =>
      obtain ⟨b, s1⟩ := p
      rw [e2] at h
      refine ⟨b, s1, rfl, ?_⟩
      cases b with
      | false => exact .inl ⟨rfl, h⟩
      | true =>
        simp only at h
        cases e3 : ke env s1 with
        | none => rw [e3] at h; cases h
        | some p =>
          obtain ⟨k, s2⟩ := p
          rw [e3] at h
          simp only at h
          cases e4 : ve env s2 with
          | none => rw [e4] at h; cases h
          | some p =>
            obtain ⟨v, s3⟩ := p
            rw [e4] at h
            simp only at h
            split at h
            · rename_i hc
              have hc := Bool.and_eq_true_iff.mp hc
              exact .inr ⟨rfl, k, s2, v, s3, rfl, e4, hc.1, hc.2, h⟩
            · cases h
theorem dc_run {tg it kx vx : Expr} {ifs : List Expr} {scope : Scope} {own : List (Str × Nat)} {N : List Str} {t : Tg} {im : Im} {es : List Expr} {is ic : List Ir} {ik iv : Ir} (hK : X.K = C.K) (hN : X.N = N) (nd : N.Nodup) (hc : X.calm = true) (ok0 : BlkOk N X.env.scope scope own)
    (ht : tgOf N scope tg = some t) (hix : ∀ i ∈ tgIx t, i ∈ own.map (·.2)) (hit : IRun C X tg it im es)
    (hes : ∀ θ F H ow st σ env ds st1 Q, Hok θ F H ow st → EnvOk C θ F H ow σ env → evLB cf env is st = some (ds, st1) → (∀ vs θ' F' H' ow', Stp θ F H ow θ' F' H' ow' → Hok θ' F' H' ow' st1 → RBs C θ' F' (Hn ow' H') ds vs → Q vs H') → SemL X im es σ H Q)
    (hifs : Paired (CBOk C cf X scope) ifs ic) (hil : ifs.length ≤ 1) (hk : EBOk C cf X scope kx ik) (he : EBOk C cf X scope vx iv) (hfs : ∀ x, foldedSetIterable it X.env x = pure x) :
    ∀ θ F H ow st σ env tt st1 Q, Hok θ F H ow st → EnvOk C θ F H ow σ env → evTop cf env (.dc (own.map (·.2)) t im is ic ik iv) st = some (tt, st1) →
      (∀ v θ' F' H' ow', Stp θ F H ow θ' F' H' ow' → Hok θ' F' H' ow' st1 → ResT C θ' F' H' ow' H tt v → Q v H') → tDc (SemI X tg it) (gTg X.K t) (tTests X scope ifs) (SemBE X scope kx) (SemBE X scope vx) (own.map (·.2)) σ H Q := by
  intro θ F H ow st σ env tt st1 Q ok en ev k
  rw [evTop_not rfl] at ev
  have ex : ∃ ds s1 xs rs, evLB cf env is st = some (ds, s1) ∧ itD im ds = some xs ∧ dcGo (fun d => bindT t d (wipeE env (own.map (·.2)))) (fun env' s => evT cf env' ic s) (fun env' s => evI cf env' ik s) (fun env' s => evI cf env' iv s) xs [] s1 = some (rs, st1) ∧ tt = .od rs := by
    cases e1 : evLB cf env is st with
    | none => unfold evI at ev; rw [e1] at ev; cases ev
    | some p =>
      obtain ⟨ds, s1⟩ := p
      unfold evI at ev
      rw [e1] at ev
      simp only at ev
      cases e2 : itD im ds with
      | none => rw [e2] at ev; cases ev
      | some xs =>
        rw [e2] at ev
        simp only at ev
        cases e3 : dcGo (fun d => bindT t d (wipeE env (own.map (·.2)))) (fun env' s => evT cf env' ic s) (fun env' s => evI cf env' ik s) (fun env' s => evI cf env' iv s) xs [] s1 with
        | none => rw [e3] at ev; cases ev
        | some p =>
          obtain ⟨rs, s2⟩ := p
          rw [e3] at ev
          cases ev
          exact ⟨ds, s1, xs, rs, rfl, e2, e3, rfl⟩
  obtain ⟨ds, s1, xs, rs, e1, e2, e3, rfl⟩ := ex
  refine hit σ H _ ?_
  refine hes θ F H ow st σ env ds s1 _ ok en e1 fun vs θ1 F1 H1 ow1 t1 o1 r1 => ?_
  refine ⟨θ1, F1, ow1, s1, ds, xs, o1, r1, e2, fun J hJ Da hD => ?_⟩
  have enw : EnvOk C θ1 F1 H1 ow1 (wipe σ (own.map (·.2))) (wipeE env (own.map (·.2))) := (en.stp t1).wipe _
  let W : Nat → Nat → Hp → Prop := fun i m H => m + i = xs.length ∧ ∃ θ2 F2 ow2 s2 acc accv, Stp θ1 F1 H1 ow1 θ2 F2 H ow2 ∧ Hok θ2 F2 H ow2 s2 ∧ F2 Da = none ∧ ow2 Da = none ∧ H Da = some (.dK accv) ∧ RK C θ2 F2 acc accv ∧
    dcGo (fun d => bindT t d (wipeE env (own.map (·.2)))) (fun env' s => evT cf env' ic s) (fun env' s => evI cf env' ik s) (fun env' s => evI cf env' iv s) (xs.drop i) acc s2 = some (rs, st1)
  refine ⟨W, ⟨xs.length, rfl, ?_⟩, ?_⟩
  · obtain ⟨o2, t2⟩ := o1.laid (o := .dK []) hD
    exact ⟨θ1, F1, ow1, s1, [], [], t2, o2, o1.noF hD, o1.noO hD, upd_same, rfl, e3⟩
  · rintro i m H2 ⟨hm, θ2, F2, ow2, s2, acc, accv, t2, o2, hF, hO, hH, ra, eg⟩
    have rv : RBs C θ2 F2 (Hn ow2 H2) ds vs := RBs.mono t2.leN t2.leF t2.th r1
    have V := hJ θ2 F2 H2 ow2 s2 o2 rv i
    cases m with
    | zero =>
      have hi : xs.length = i := by omega
      refine .inl ⟨V.1 hi, ?_⟩
      rw [List.drop_eq_nil_of_le (Nat.le_of_eq hi)] at eg
      cases (show some (acc, s2) = some (rs, st1) from eg)
      exact k _ θ2 F2 H2 ow2 (t1.trans o1 t2) o2 ⟨Da, accv, rfl, t1.none o1 Da hD, hF, hO, hH, ra⟩
    | succ m =>
      have hi : i < xs.length := by omega
      have hx : xs[i]? = some xs[i] := List.getElem?_eq_getElem hi
      obtain ⟨hgo, hy⟩ := V.2 _ hx
      rw [List.drop_eq_getElem_cons hi] at eg
      obtain ⟨env', eb, b, s3, et, hb⟩ := dcGo_cons eg
      refine .inr ⟨hgo, fun H' => W (i + 1) m H', fun H' h => ⟨m, Nat.lt_succ_self _, h⟩, fun x H3 hyl => ?_⟩
      obtain ⟨F3, t3, o3, r3⟩ := hy x H3 hyl
      have enw3 : EnvOk C θ2 F3 H3 ow2 (wipe σ (own.map (·.2))) (wipeE env (own.map (·.2))) := (enw.stp t2).stp t3
      refine bind_ok hK o3.le t eb r3 enw3 fun σ1 en1 w1 => ⟨(w1 _ hix).trans wipe_wipe, ?_⟩
      refine tests_run hifs hil o3 en1 et fun θ4 F4 H4 ow4 t4 o4 => ?_
      have t34 := t3.trans o3 t4
      have live : ∀ {θ' F' H' ow' s'}, Stp θ2 F2 H2 ow2 θ' F' H' ow' → Hok θ' F' H' ow' s' → F' Da = none ∧ ow' Da = none ∧ H' Da = some (.dK accv) := fun t' o' =>
        ⟨t'.fn Da _ hH (fun _ z => by cases z) (by rw [hO]; exact fun z => by cases z) hF, (t'.oo Da _ hH).trans hO, t'.ex Da _ hH (by rw [hO]; exact fun z => by cases z)⟩
      rcases hb with ⟨rfl, eg'⟩ | ⟨rfl, kd, s4, vd, s5, ek, ed, hkk, hf, eg'⟩
      · obtain ⟨l1, l2, l3⟩ := live t34 o4
        exact ⟨by omega, θ4, F4, ow4, s3, acc, accv, t2.trans o2 t34, o4, l1, l2, l3, RK.mono t34.leF t34.th _ _ ra, eg'⟩
      · show SemBE X scope kx σ1 H4 _
        refine hk.run o4 (en1.stp t4) ek fun y0 θ5 F5 H5 ow5 t5 o5 r5 => ?_
        refine he.run o5 ((en1.stp t4).stp t5) ed fun y θ6 F6 H6 ow6 t6 o6 r6 => ?_
        have t345 := t34.trans o4 (t5.trans o5 t6)
        obtain ⟨l1, l2, l3⟩ := live t345 o6
        obtain ⟨key, ekk⟩ := keysK_key hkk
        have hlen : accv.length < sizeLine := by
          have h1 := fits_ok hf
          have := RK.length ra
          omega
        refine ⟨accv, key, key_kV ekk r5, l3, hlen, ?_⟩
        obtain ⟨o7, t7⟩ := chg (o := .dK (putK accv key y)) o6 (t2.trans o2 t345) hD l1 (by rw [l2]; exact fun z => by cases z)
        refine ⟨by omega, θ6, F6, ow6, s5, dPut acc kd vd, putK accv key y, t7, o7, l1, l2, upd_same, ?_, eg'⟩
        exact RK.put ekk r6 (RK.mono t345.leF t345.th _ _ ra)
theorem e_dc {tg it kx vx : Expr} {ifs : List Expr} {scope : Scope} {own : List (Str × Nat)} {pos : Pos} {N : List Str} {t : Tg} {im : Im} {es : List Expr} {is ic : List Ir} {ik iv : Ir} (hK : X.K = C.K) (hN : X.N = N) (nd : N.Nodup) (hc : X.calm = true) (ok0 : BlkOk N X.env.scope scope own)
    (ht : tgOf N scope tg = some t) (hix : ∀ i ∈ tgIx t, i ∈ own.map (·.2)) (hit : IRun C X tg it im es)
    (hes : ∀ θ F H ow st σ env ds st1 Q, Hok θ F H ow st → EnvOk C θ F H ow σ env → evLB cf env is st = some (ds, st1) → (∀ vs θ' F' H' ow', Stp θ F H ow θ' F' H' ow' → Hok θ' F' H' ow' st1 → RBs C θ' F' (Hn ow' H') ds vs → Q vs H') → SemL X im es σ H Q)
    (hifs : Paired (CBOk C cf X scope) ifs ic) (hil : ifs.length ≤ 1) (hk : EBOk C cf X scope kx ik) (he : EBOk C cf X scope vx iv) (hfs : ∀ x, foldedSetIterable it X.env x = pure x) :
    TOk C cf X (.DictComp kx vx [⟨tg, it, ifs, 0⟩] scope pos) (.dc (own.map (·.2)) t im is ic ik iv) := by
  intro θ F H ow st σ env tt st1 Q ok en ev k
  exact se (pe_dc (g := gTg X.K t) (tt := tTests X scope ifs) (tk := SemBE X scope kx) (tv := SemBE X scope vx) hc (by rw [hN]; exact nd) pi_sem (by rw [hN]; exact ok0) (comp_pg hN nd hc ht) (fun s H c cl fp => ptests hil s H c cl fp) (fun s H c cl fp => pbe s H c cl fp) (fun s H c cl fp => pbe s H c cl fp) hfs) (dc_run hK hN nd hc ok0 ht hix hit hes hifs hil hk he hfs θ F H ow st σ env tt st1 Q ok en ev k)
end
end Ev
/-! EvXB -/
namespace Ev
open PySem PySem.Spec PyProof.Rows L2
section
variable {C : Ctx} {cf : CallF} {X : Cx}
/-! ### dict displays -/
theorem evKV_cons {env : Env} {k v : Ir} {r : List (Ir × Ir)} {st st1 : Sst} {xs ys : List D} (h : evKV cf env ((k, v) :: r) st = some (xs, ys, st1)) :
    ∃ x s1 y s2 xs' ys', evI cf env k st = some (x, s1) ∧ evI cf env v s1 = some (y, s2) ∧ evKV cf env r s2 = some (xs', ys', st1) ∧ xs = x :: xs' ∧ ys = y :: ys' := by
  unfold evKV at h
  cases e1 : evI cf env k st with
  | none => rw [e1] at h; cases h
  | some p =>
    obtain ⟨x, s1⟩ := p
    rw [e1] at h
    simp only at h
    cases e2 : evI cf env v s1 with
    | none => rw [e2] at h; cases h
    | some p =>
      obtain ⟨y, s2⟩ := p
      rw [e2] at h
      simp only at h
      split at h
      · rename_i xs' ys' s3 e3
        cases h
        exact ⟨x, s1, y, s2, xs', ys', rfl, e2, e3, rfl, rfl⟩
      · cases h
inductive KVs (C : Ctx) (cf : CallF) (X : Cx) : List (Option Expr) → List Expr → List (Ir × Ir) → Prop where
  | nil : KVs C cf X [] [] []
  | cons {k v : Expr} {ik iv : Ir} {ks : List (Option Expr)} {vs : List Expr} {is : List (Ir × Ir)} (hk : EOk C cf X k ik) (hv : EOk C cf X v iv) (r : KVs C cf X ks vs is) : KVs C cf X (some k :: ks) (v :: vs) ((ik, iv) :: is)
theorem kv_run {ks : List (Option Expr)} {vs : List Expr} {is : List (Ir × Ir)} (K : KVs C cf X ks vs is) : ∃ trs, (∀ pos, PPs X pos ks vs trs) ∧ ks.all (·.isSome) = true ∧ ks.length = vs.length ∧ ks.length = is.length ∧
    ∀ {θ : Toks} {F H : Hp} {ow : OwF} {st st1 : Sst} {σ : L2.St} {env : Env} {xs ys : List D} {Q : List (V × V) → Hp → Prop}, Hok θ F H ow st → EnvOk C θ F H ow σ env → evKV cf env is st = some (xs, ys, st1) →
      (∀ ps θ' F' H' ow', Stp θ F H ow θ' F' H' ow' → Hok θ' F' H' ow' st1 → Paired (fun p q => R C θ' F' p.1 q.1 ∧ R C θ' F' p.2 q.2) (xs.zip ys) ps → xs.length = ys.length → ps.length = is.length → Q ps H') → tPairs trs σ H Q := by
  induction K with
  | nil =>
    refine ⟨[], fun _ => pps_nil, rfl, rfl, rfl, ?_⟩
    intro θ F H ow st st1 σ env xs ys Q ok en ev k
    cases ev
    exact k [] θ F H ow Stp.refl ok .nil rfl rfl
  | @cons kx vx ik iv ks vs is hk hv r ih =>
    obtain ⟨trs, h1, h2, h3, h4, h5⟩ := ih
    refine ⟨(SemE X kx, SemE X vx) :: trs, fun pos => pps_cons pe_sem pe_sem (h1 pos), by rw [List.all_cons, h2]; rfl, by rw [List.length_cons, List.length_cons, h3], by rw [List.length_cons, List.length_cons, h4], ?_⟩
    intro θ F H ow st st1 σ env xs ys Q ok en ev k
    obtain ⟨x, s1, y, s2, xs', ys', e1, e2, e3, rfl, rfl⟩ := evKV_cons ev
    refine hk θ F H ow st σ env x s1 _ ok en e1 fun a θ1 F1 H1 ow1 t1 o1 r1 => ?_
    refine hv θ1 F1 H1 ow1 s1 σ env y s2 _ o1 (en.stp t1) e2 fun b θ2 F2 H2 ow2 t2 o2 r2 => ?_
    refine h5 o2 ((en.stp t1).stp t2) e3 fun ps θ3 F3 H3 ow3 t3 o3 r3 l3 l4 => ?_
    exact k _ θ3 F3 H3 ow3 ((t1.trans o1 t2).trans o2 t3) o3 (.cons ⟨R.mono (t2.trans o2 t3).leF (t2.trans o2 t3).th _ _ r1, R.mono t3.leF t3.th _ _ r2⟩ r3) (by rw [List.length_cons, List.length_cons, l3]) (by rw [List.length_cons, List.length_cons, l4])
theorem e_dct {ks : List (Option Expr)} {vs : List Expr} {is : List (Ir × Ir)} {pos : Pos} (K : KVs C cf X ks vs is) (hl : is.length ≤ 15) : TOk C cf X (.Dict ks vs pos) (.dct is) := by
  intro θ F H ow st σ env t st1 Q ok en ev k
  rw [evTop_not rfl] at ev
  have ex : ∃ xs ys kvs, evKV cf env is st = some (xs, ys, st1) ∧ dctOf [] xs ys = some kvs ∧ t = .od kvs := by
    cases e1 : evKV cf env is st with
    | none => unfold evI at ev; rw [e1] at ev; cases ev
    | some p =>
      obtain ⟨xs, ys, s1⟩ := p
      unfold evI at ev
      rw [e1] at ev
      simp only at ev
      cases e2 : dctOf [] xs ys with
      | none => rw [e2] at ev; cases ev
      | some kvs =>
        rw [e2] at ev
        cases ev
        exact ⟨xs, ys, kvs, rfl, e2, rfl⟩
  obtain ⟨xs, ys, kvs, e1, e2, rfl⟩ := ex
  cases K with
  | nil =>
    cases e1
    cases e2
    refine se pe_dnewK fun p hp => ?_
    obtain ⟨o1, t1⟩ := ok.laid (o := .dK []) hp
    exact k _ θ F _ ow t1 o1 ⟨p, [], rfl, hp, ok.noF hp, ok.noO hp, upd_same, rfl⟩
  | @cons kx vx ik iv ks vs is hk hv r =>
    obtain ⟨trs, h1, h2, h3, h4, h5⟩ := kv_run (.cons hk hv r)
    refine se (pe_disp (h1 pos) h2 h3 (by simp) (by rw [h4]; exact hl)) fun p hp => ?_
    obtain ⟨o1, t1⟩ := ok.laid (o := .dK []) hp
    refine h5 o1 (en.stp t1) e1 fun ps θ2 F2 H2 ow2 t2 o2 r2 l2 l3 => ?_
    have hF : F2 p = none := t2.fn p _ upd_same (fun _ z => by cases z) (by rw [ok.noO hp]; exact fun z => by cases z) (ok.noF hp)
    have hO : ow2 p = none := (t2.oo p _ upd_same).trans (ok.noO hp)
    have hH : H2 p = some (.dK []) := t2.ex p _ upd_same (by rw [ok.noO hp]; exact fun z => by cases z)
    obtain ⟨prs, rfl, hr⟩ := dctOf_ok e2 r2 l2 (as := []) rfl
    refine ⟨hH, prs, rfl, by rw [List.length_map] at l3; omega, ?_⟩
    obtain ⟨o3, t3⟩ := chg (o := .dK (mergeK [] prs)) o2 (t1.trans o1 t2) hp hF (by rw [hO]; exact fun z => by cases z)
    exact k _ θ2 F2 _ ow2 t3 o3 ⟨p, _, rfl, hp, hF, hO, upd_same, hr⟩
/-! ### all expressions -/
theorem sw_no {e : Expr} (h : isCompB e = false) (t : Option Expr) (l : Nat) (env : PySem.Env) : swapsWith e t l env = pure false := by
  cases e <;> first | rfl | cases h
/-- name = e -/
def SetOk (C : Ctx) (cf : CallF) (X : Cx) (e : Expr) (i : Ir) : Prop := ∀ (y : Str) (j : Nat) (py spos : Pos), X.N.Nodup → X.N[j]? = some y → Loc X.env.scope y → (X.fn y = true ∨ X.env.scope.names.lookup y = some .local) →
  ∀ θ F H ow st σ env t st1 (D : Ends), Hok θ F H ow st → EnvOk C θ F H ow σ env → evTop cf env i st = some (t, st1) →
  (∀ v θ' F' H' ow', Stp θ F H ow θ' F' H' ow' → Hok θ' F' H' ow' st1 → ResT C θ' F' H' ow' H t v → D.nx (σ.set j (some v)) H') → SemS X (.Assign [.Name y py] e spos) D σ H
theorem TOk.set {e : Expr} {i : Ir} (T : TOk C cf X e i) (h : isCompB e = false) : SetOk C cf X e i := by
  intro y j py spos nd hj hl hf θ F H ow st σ env t st1 D ok en ev k
  exact ss (ps_set nd hj hl pe_sem (sw_no h _ _ _) hf) (T θ F H ow st σ env t st1 _ ok en ev fun v θ' F' H' ow' s o r => k v θ' F' H' ow' s o r)
theorem sw_lc {elt : Expr} {gs : List Comprehension} {scope : Scope} {pos py : Pos} {y : Str} {l : Nat} {env : PySem.Env} : ∃ b, swapsWith (.ListComp elt gs scope pos) (some (.Name y py)) l env = pure b ∧ (b = true → env.kindOf y = some .local) := by
  refine ⟨_, rfl, fun h => ?_⟩
  simp only [Bool.and_eq_true] at h
  exact eq_of_beq h.1.1.2
theorem sw_dc {kx vx : Expr} {gs : List Comprehension} {scope : Scope} {pos py : Pos} {y : Str} {l : Nat} {env : PySem.Env} : ∃ b, swapsWith (.DictComp kx vx gs scope pos) (some (.Name y py)) l env = pure b ∧ (b = true → env.kindOf y = some .local) := by
  refine ⟨_, rfl, fun h => ?_⟩
  simp only [Bool.and_eq_true] at h
  exact eq_of_beq h.1.1.2
theorem ps_setDc {i : Nat} {y : Str} {py : Pos} {kx vx tg iter : Expr} {ifs : List Expr} {scope : Scope} {own : List (Str × Nat)} {pos spos : Pos} {wi : TI} {g : TG} {tt : TT} {tk tv : TE} (hc : X.calm = true) (hN : X.N.Nodup) (hy : X.N[i]? = some y) (hyl : X.env.scope.names.lookup y = some .local)
    (hsw : swapsWith (.DictComp kx vx [⟨tg, iter, ifs, 0⟩] scope pos) (some (.Name y py)) spos.line X.env = pure true) (hi : PI X tg iter wi) (ok : BlkOk X.N X.env.scope scope own)
    (hg : ∀ (s : Shared) (H : Hp) (C : Addr) (cl : List (Str × Addr)) (fp : List Addr), PG (X.blk s H scope (compEnvC scope cl C X.env) fp) tg g) (ht : ∀ (s : Shared) (H : Hp) (C : Addr) (cl : List (Str × Addr)) (fp : List Addr), PTs (X.blk s H scope (compEnvC scope cl C X.env) fp) ifs tt)
    (hk : ∀ (s : Shared) (H : Hp) (C : Addr) (cl : List (Str × Addr)) (fp : List Addr), PE (X.blk s H scope (compEnvC scope cl C X.env) fp) kx tk)
    (he : ∀ (s : Shared) (H : Hp) (C : Addr) (cl : List (Str × Addr)) (fp : List Addr), PE (X.blk s H scope (compEnvC scope cl C X.env) fp) vx tv) (hs : ∀ x, foldedSetIterable iter X.env x = pure x) :
    PS X (.Assign [.Name y py] (.DictComp kx vx [⟨tg, iter, ifs, 0⟩] scope pos) spos) (tAsg (tDc wi g tt tk tv (own.map (·.2))) (gName i)) := by
  refine ⟨fun pins s σ H D I h => ?_⟩
  rw [exec_Assign_Name_used _ _ _ _ hsw]
  refine wpAny_bind (wpAny_standAt (wpAny_bind ?_))
  show wpAny _ X.A (do let _ ← comprehension (.DictComp kx vx [⟨tg, iter, ifs, 0⟩] scope pos) scope X.env (firstIterPos [⟨tg, iter, ifs, 0⟩] pos) newDict false (eval iter X.env) (some (assign (.Name y py) X.env))) _ _ s
  have h : tDc wi g tt tk tv (own.map (·.2)) σ H (fun x H1 => gName i x σ H1 D.nx) := h
  refine wpAny_bind (thn (dc_core (Qf := fun _ s' => SP X pins D .next s') hc hN I hi ok hg ht hk he hs h fun L C s' m H' I' q hn f => ?_) fun _ s' hq => wpAny_pure (wpAny_pure hq))
  show wpAny _ _ (assign (.Name y py) X.env (.ref L)) _ _ _
  refine wpAny_assign_Name (store_ok2 (v := V.ref L) I' hN hy (.inl hyl) rfl (fun s2 I2 ⟨a, sb, ha⟩ => ?_) (.inr hyl))
  obtain ⟨f0, f1, f2, f3, f4, f5⟩ := f
  have haC : C ≠ a := by
    rcases ha with z | z
    · rw [z]; exact f1
    · exact fun e => f4 y a z e.symm
  refine ⟨m, hn.sameBut sb haC, fun h3 sb3 => ?_⟩
  exact ⟨_, H', I2.turned (t' := s2.toks) (fun b o hb e => (sb3.2 b hb).trans e) f0 f1 f3 f4 f5, q⟩
structure Sd (C : Ctx) (cf : CallF) (X : Cx) (e : Expr) (i : Ir) : Prop where
  E : EOk C cf X e i
  B : BOk C cf X e i
  T : TOk C cf X e i
  A : SetOk C cf X e i
  C : COk C cf X e i
theorem mkE {e : Expr} {i : Ir} (E : EOk C cf X e i) (hc : COk C cf X e i) (h1 : varB i = false := by rfl) (h2 : callB i = false := by rfl) (h3 : freshB i = false := by rfl) (h4 : isCompB e = false := by rfl) : Sd C cf X e i := ⟨E, E.b h1, E.t h2 h3, (E.t h2 h3).set h4, hc⟩
theorem mkT {e : Expr} {i : Ir} (T : TOk C cf X e i) (he : ∀ whole, isTrue e X.env whole = (do let v ← whole; standAt e.pos; holding [v] (truthy v)) := by intro _; rfl) (h1 : varB i = false := by rfl) (h4 : isCompB e = false := by rfl) : Sd C cf X e i := ⟨T.e, T.e.b h1, T, T.set h4, T.e.c he⟩
theorem mkP {e : Expr} {i : Ir} (E : EOk C cf X e i) (he : ∀ whole, isTrue e X.env whole = (do let v ← whole; standAt e.pos; holding [v] (truthy v)) := by intro _; rfl) (h1 : varB i = false := by rfl) (h2 : callB i = false := by rfl) (h3 : freshB i = false := by rfl) (h4 : isCompB e = false := by rfl) : Sd C cf X e i := ⟨E, E.b h1, E.t h2 h3, (E.t h2 h3).set h4, E.c he⟩
theorem own_ix {N : List Str} : ∀ {xs : List Str} {own : List (Str × Nat)}, ownOf N xs = some own → ∀ x ∈ xs, ∃ i, ix N x = some i ∧ i ∈ own.map (·.2)
  | [], _, _ => fun x hx => by cases hx
  | x :: xs, own, h => by
    unfold ownOf at h
    split at h
    · rename_i i q e1 e2
      cases h
      intro y hy
      rcases List.mem_cons.mp hy with rfl | hy
      · exact ⟨i, e1, by simp⟩
      · obtain ⟨j, h1, h2⟩ := own_ix e2 y hy
        exact ⟨j, h1, List.mem_cons_of_mem _ h2⟩
    · cases h
mutual
theorem tg_ix {N : List Str} {sc : Scope} : ∀ (e : Expr) (t : Tg), tgOf N sc e = some t → ∀ i ∈ tgIx t, ∃ x ∈ tgNs e, ix N x = some i
  | .Name x pos, t, h => by
    have h : (if locB sc x = true then (match ix N x with
      | some i => some (Tg.n i)
      | none => none) else none) = some t := h
    split at h
    · split at h
      · rename_i i hi
        cases h
        intro j hj
        have : j = i := by unfold tgIx at hj; simpa using hj
        subst this
        exact ⟨x, by unfold tgNs; simp, hi⟩
      · cases h
    · cases h
  | .Tuple es k pos, t, h => by
    have h : (match tgsOf N sc es with
      | some ts => some (Tg.t ts)
      | none => none) = some t := h
    split at h
    · rename_i ts hts
      cases h
      exact tgs_ix es ts hts
    · cases h
  | .Starred .., _, h => by cases h
  | .List .., _, h => by cases h
  | .Attribute .., _, h => by cases h
  | .Subscript .., _, h => by cases h
  | .BoolOp .., _, h => by cases h
  | .NamedExpr .., _, h => by cases h
  | .BinOp .., _, h => by cases h
  | .UnaryOp .., _, h => by cases h
  | .Lambda .., _, h => by cases h
  | .IfExp .., _, h => by cases h
  | .Dict .., _, h => by cases h
  | .Set .., _, h => by cases h
  | .ListComp .., _, h => by cases h
  | .SetComp .., _, h => by cases h
  | .DictComp .., _, h => by cases h
  | .GeneratorExp .., _, h => by cases h
  | .Await .., _, h => by cases h
  | .Yield .., _, h => by cases h
  | .YieldFrom .., _, h => by cases h
  | .Compare .., _, h => by cases h
  | .Call .., _, h => by cases h
  | .FormattedValue .., _, h => by cases h
  | .JoinedStr .., _, h => by cases h
  | .Constant .., _, h => by cases h
  | .Slice .., _, h => by cases h
theorem tgs_ix {N : List Str} {sc : Scope} : ∀ (es : List Expr) (ts : List Tg), tgsOf N sc es = some ts → ∀ i ∈ tgIxs ts, ∃ x ∈ tgNss es, ix N x = some i
  | [], ts, h => by
    cases h
    intro i hi
    unfold tgIxs at hi
    cases hi
  | e :: es, ts, h => by
    have h : (match tgOf N sc e, tgsOf N sc es with
      | some t, some ts => some (t :: ts)
      | _, _ => none) = some ts := h
    cases e1 : tgOf N sc e with
    | none => rw [e1] at h; cases h
    | some t =>
      cases e2 : tgsOf N sc es with
      | none => rw [e1, e2] at h; cases h
      | some ts' =>
        rw [e1, e2] at h
        cases h
        intro i hi
        unfold tgIxs at hi
        rcases List.mem_append.mp hi with hi | hi
        · obtain ⟨x, h1, h2⟩ := tg_ix e t e1 i hi
          exact ⟨x, by unfold tgNss; exact List.mem_append_left _ h1, h2⟩
        · obtain ⟨x, h1, h2⟩ := tgs_ix es ts' e2 i hi
          exact ⟨x, by unfold tgNss; exact List.mem_append_right _ h1, h2⟩
end
/-- what a for walks, taken apart -/
theorem it_inv {g : Gi} {N : List Str} {n : Nat} {tg it : Expr} {im : Im} {is : List Ir} (hK : X.K = C.K) (hm : ∀ x ∈ bltN, X.mg x = none) (h : itOf g X.env.scope (compE g N n X.env.scope) tg it = some (im, is)) :
    ∃ es, IRun C X tg it im es ∧ Paired (fun e i => compE g N n X.env.scope e = some i) es is ∧ (im = .of → ∃ e i, es = [e] ∧ is = [i]) ∧ nst it = true := by
  have one : ∀ (e : Expr), ((compE g N n X.env.scope e).map fun i => (Im.of, [i])) = some (im, is) → ∃ es, IRun C X tg e im es ∧ Paired (fun e i => compE g N n X.env.scope e = some i) es is ∧ (im = .of → ∃ e i, es = [e] ∧ is = [i]) ∧ nst e = true := by
    intro e h
    obtain ⟨i, e1, e2⟩ := Option.map_eq_some_iff.mp h
    cases e2
    exact ⟨[e], i_of hK, .cons e1 .nil, fun _ => ⟨e, i, rfl, rfl⟩, comp_nst e1⟩
  unfold itOf at h
  split at h
  · rename_i x p as pos
    split at h
    · rename_i hc
      have hg : Gl X x := gl_of (by simp only [Bool.and_eq_true] at hc; exact hc.1.1)
      split at h
      · rename_i hx
        have hx : x = "range" := eq_of_beq hx
        subst hx
        split at h
        · rename_i a
          obtain ⟨i, e1, e2⟩ := Option.map_eq_some_iff.mp h
          cases e2
          exact ⟨[a], i_range1 hg (hm _ (by decide)) (comp_nst e1), .cons e1 .nil, (fun h => by cases h), rfl⟩
        · rename_i a b
          split at h
          · rename_i i j e1 e2
            cases h
            exact ⟨[a, b], i_range2 hg (hm _ (by decide)) (comp_nst e1) (comp_nst e2), .cons e1 (.cons e2 .nil), (fun h => by cases h), rfl⟩
          · cases h
        · cases h
      · split at h
        · rename_i hx
          have hx : x = "enumerate" := eq_of_beq hx
          subst hx
          split at h
          · rename_i a
            split at h
            · rename_i ht
              obtain ⟨i, e1, e2⟩ := Option.map_eq_some_iff.mp h
              cases e2
              cases tg <;> first | exact ⟨[a], i_enum hK hg (hm _ (by decide)) (comp_nst e1), .cons e1 .nil, (fun h => by cases h), rfl⟩ | cases ht
            · cases h
          · cases h
        · split at h
          · rename_i hx
            have hx : x = "zip" := eq_of_beq hx
            subst hx
            split at h
            · rename_i a b
              split at h
              · rename_i ht
                split at h
                · rename_i i j e1 e2
                  cases h
                  cases tg <;> first | exact ⟨[a, b], i_zip hK hg (hm _ (by decide)) (comp_nst e1) (comp_nst e2), .cons e1 (.cons e2 .nil), (fun h => by cases h), rfl⟩ | cases ht
                · cases h
              · cases h
            · cases h
          · exact one _ h
    · exact one _ h
  · exact one _ h
theorem lb_of {im : Im} {es : List Expr} {is : List Ir} (h : Paired (fun e i => BOk C cf X e i ∧ nst e = true) es is) (h1 : im = .of → ∃ e i, es = [e] ∧ is = [i]) :
    ∀ θ F H ow st σ env ds st1 Q, Hok θ F H ow st → EnvOk C θ F H ow σ env → evLB cf env is st = some (ds, st1) → (∀ vs θ' F' H' ow', Stp θ F H ow θ' F' H' ow' → Hok θ' F' H' ow' st1 → RBs C θ' F' (Hn ow' H') ds vs → Q vs H') → SemL X im es σ H Q := by
  intro θ F H ow st σ env ds st1 Q ok en ev k
  cases im with
  | of =>
    obtain ⟨e, i, rfl, rfl⟩ := h1 rfl
    cases h with
    | cons q _ =>
      obtain ⟨d, s1, ds', e1, e2, rfl⟩ := evLB_cons ev
      cases (show some (([] : List D), s1) = some (ds', st1) from e2)
      exact ⟨e, rfl, q.1 θ F H ow st σ env d _ _ ok en e1 fun v θ1 F1 H1 ow1 t1 o1 r1 => k [v] θ1 F1 H1 ow1 t1 o1 ⟨v, [], rfl, r1, rfl⟩⟩
  | _ => exact ab_of h θ F H ow st σ env ds st1 Q ok en ev k
theorem la_of {im : Im} {es : List Expr} {is : List Ir} (h : Paired (fun e i => EOk C cf X e i ∧ nst e = true) es is) (h1 : im = .of → ∃ e i, es = [e] ∧ is = [i]) :
    ∀ θ F H ow st σ env ds st1 Q, Hok θ F H ow st → EnvOk C θ F H ow σ env → evL cf env is st = some (ds, st1) → (∀ vs θ' F' H' ow', Stp θ F H ow θ' F' H' ow' → Hok θ' F' H' ow' st1 → Rs C θ' F' ds vs → Q vs H') → SemL X im es σ H Q := by
  intro θ F H ow st σ env ds st1 Q ok en ev k
  cases im with
  | of =>
    obtain ⟨e, i, rfl, rfl⟩ := h1 rfl
    cases h with
    | cons q _ =>
      obtain ⟨d, s1, ds', e1, e2, rfl⟩ := evL_cons ev
      cases (show some (([] : List D), s1) = some (ds', st1) from e2)
      exact ⟨e, rfl, q.1 θ F H ow st σ env d _ _ ok en e1 fun v θ1 F1 H1 ow1 t1 o1 r1 => k [v] θ1 F1 H1 ow1 t1 o1 ⟨v, [], rfl, r1, rfl⟩⟩
  | _ => exact a_of h θ F H ow st σ env ds st1 Q ok en ev k
end
end Ev
/-! EvXC -/
namespace Ev
open PySem PySem.Spec PyProof.Rows L2
section
variable {C : Ctx} {cf : CallF} {g : Gi} {N : List Str}
theorem paired_imp {α β : Type} {P P' : α → β → Prop} (h : ∀ a b, P a b → P' a b) {xs : List α} {ys : List β} (p : Paired P xs ys) : Paired P' xs ys := paired_mono h p
theorem boolB {f : Ir → Ir → Ir} (hf : ∀ a b, varB (f a b) = false ∧ callB (f a b) = false ∧ freshB (f a b) = false) : ∀ {is : List Ir} {i : Ir}, foldB f is = some i → 2 ≤ is.length → varB i = false ∧ callB i = false ∧ freshB i = false
  | [], _, h, _ => by cases h
  | [_], _, _, hl => by simp at hl
  | a :: b :: r, i, h, _ => by
    obtain ⟨j, e, rfl⟩ := Option.map_eq_some_iff.mp h
    exact hf a j
theorem star_items {X : Cx} {f : Expr → Option Ir} (h : ∀ e i, f e = some i → EOk C cf X e i ∧ BOk C cf X e i ∧ nst e = true) : ∀ {es : List Expr} {is : List (Bool × Ir)}, mapO (starOf f) es = some is → Paired (Item C cf X) es is := by
  intro es is hm
  refine paired_mono (fun e i hi => ?_) (mapO_paired hm)
  unfold starOf at hi
  split at hi
  · rename_i e' p
    obtain ⟨j, e1, rfl⟩ := Option.map_eq_some_iff.mp hi
    exact .inr ⟨rfl, e', p, rfl, (h e' j e1).2.1⟩
  · obtain ⟨j, e1, rfl⟩ := Option.map_eq_some_iff.mp hi
    exact .inl ⟨rfl, (h e j e1).1, (h e j e1).2.2⟩
theorem kvs_of {X : Cx} {f : Expr → Option Ir} (h : ∀ e i, f e = some i → EOk C cf X e i) : ∀ {ks : List (Option Expr)} {vs : List Expr} {a b : List Ir}, mapO (fun k => k.bind f) ks = some a → mapO f vs = some b → a.length = b.length → KVs C cf X ks vs (a.zip b)
  | [], [], a, b, h1, h2, hl => by cases h1; cases h2; exact .nil
  | [], v :: vs, a, b, h1, h2, hl => by
    cases h1
    have := paired_length (mapO_paired h2)
    rw [← hl] at this
    simp at this
  | k :: ks, [], a, b, h1, h2, hl => by
    cases h2
    have := paired_length (mapO_paired h1)
    rw [hl] at this
    simp at this
  | k :: ks, v :: vs, a, b, h1, h2, hl => by
    cases mapO_paired h1 with
    | cons q1 r1 =>
      cases mapO_paired h2 with
      | cons q2 r2 =>
        rename_i a1 ar b1 br
        cases k with
        | none => cases q1
        | some k =>
          refine .cons (h k a1 q1) (h v b1 q2) ?_
          have e1 : mapO (fun k => k.bind f) ks = some ar := by
            unfold mapO at h1
            split at h1
            · rename_i x xs e3 e4
              cases h1
              exact e4
            · cases h1
          have e2 : mapO f vs = some br := by
            unfold mapO at h2
            split at h2
            · rename_i x xs e3 e4
              cases h2
              exact e4
            · cases h2
          exact kvs_of h e1 e2 (by simpa using hl)
theorem snd : ∀ (n : Nat) (X : Cx), XOk g C cf N X → ∀ (e : Expr) (i : Ir), compE g N n X.env.scope e = some i → Sd C cf X e i := by
  intro n
  induction n with
  | zero => intro X ok e i h; cases h
  | succ n ih =>
    intro X ok e i h
    have hK := ok.hK
    cases hs : specE N X.env.scope e with
    | some i' =>
      have h : (match specE N X.env.scope e with
        | some i => some i
        | none => compB g N (compE g N n) X.env.scope e) = some i := h
      rw [hs] at h
      cases h
      unfold specE at hs
      split at hs
      · rename_i x px k j0 p0 p1 p2 pos
        split at hs
        · rename_i hc
          simp only [Bool.and_eq_true, decide_eq_true_eq] at hc
          obtain ⟨⟨⟨_, hk⟩, ho⟩, hv⟩ := hc
          subst hk
          obtain ⟨j, hj, rfl⟩ := Option.map_eq_some_iff.mp hs
          obtain ⟨E, Cc⟩ := e_ncells (C := C) (cf := cf) (X := X) (px := px) (p0 := p0) (p1 := p1) (p2 := p2) (pos := pos) (j0 := j0) hK ok.un ok.hN hj hv ho
          exact mkE E Cc
        · cases hs
      · rename_i x px k j0 p0 p1 m ap j j1 p2 cp
        split at hs
        · rename_i hc
          simp only [Bool.and_eq_true, decide_eq_true_eq] at hc
          obtain ⟨⟨⟨⟨⟨⟨_, hk⟩, hj0⟩, hm⟩, hl⟩, ho⟩, hv⟩ := hc
          subst hk hj0
          have hm : m = "pop" := eq_of_beq hm
          subst hm
          obtain ⟨q, hq, rfl⟩ := Option.map_eq_some_iff.mp hs
          exact mkP (e_spop (C := C) (cf := cf) (X := X) ok.hN hq hv ho hl)
        · cases hs
      · cases hs
    | none =>
    replace h : compB g N (compE g N n) X.env.scope e = some i := by
      have h : (match specE N X.env.scope e with
        | some i => some i
        | none => compB g N (compE g N n) X.env.scope e) = some i := h
      rw [hs] at h
      exact h
    clear hs
    have hm := ok.blt
    have S := ih X ok
    have EN : ∀ {e : Expr} {i : Ir}, compE g N n X.env.scope e = some i → EOk C cf X e i ∧ nst e = true := fun h => ⟨(S _ _ h).E, comp_nst h⟩
    have BN : ∀ {e : Expr} {i : Ir}, compE g N n X.env.scope e = some i → BOk C cf X e i ∧ nst e = true := fun h => ⟨(S _ _ h).B, comp_nst h⟩
    cases e with
    | Constant c k pos =>
      cases c with
      | none => cases h; exact mkP (e_const pe_non fun _ _ => rfl)
      | bool b => cases h; exact mkP (e_const pe_bl fun _ _ => rfl)
      | int b => cases h; exact mkP (e_const pe_int fun _ _ => rfl)
      | str b => cases h; exact mkP (e_const pe_str fun _ _ => rfl)
      | _ => cases h
    | Name x pos =>
      change (if okN x = true then (match ix N x with
        | some i => if visB X.env.scope x = true then some (Ir.v i) else none
        | none => if glB X.env.scope x = true then (g.cst.lookup x).map .k else none) else none) = some i at h
      split at h
      · rename_i ho
        split at h
        · rename_i j hj
          split at h
          · rename_i hv
            cases h
            obtain ⟨E, B⟩ := e_var (C := C) (cf := cf) (pos := pos) ok.hN hj hv ho
            exact ⟨E, B, E.t rfl rfl, (E.t rfl rfl).set rfl, E.c fun _ => rfl⟩
          · cases h
        · split at h
          · rename_i hg
            obtain ⟨d, e1, rfl⟩ := Option.map_eq_some_iff.mp h
            obtain ⟨u, v, h1, h2, h3⟩ := ok.cst x d e1
            exact mkP (e_const (pe_glob (gl_of hg) h1 h2 (okN_d ho).1) h3)
          · cases h
      · cases h
    | List es pos =>
      obtain ⟨is, e1, rfl⟩ := Option.map_eq_some_iff.mp (show (mapO (starOf (compE g N n X.env.scope)) es).map Ir.lst = some i from h)
      exact mkT (e_lst (as_of hK (star_items (fun e i h => ⟨(S e i h).E, (S e i h).B, comp_nst h⟩) e1)))
    | Tuple es k pos =>
      obtain ⟨is, e1, rfl⟩ := Option.map_eq_some_iff.mp (show (mapO (starOf (compE g N n X.env.scope)) es).map Ir.tup = some i from h)
      exact mkP (e_tup (as_of hK (star_items (fun e i h => ⟨(S e i h).E, (S e i h).B, comp_nst h⟩) e1)))
    | Dict ks vs pos =>
      change (match mapO (fun k => k.bind (compE g N n X.env.scope)) ks, mapO (compE g N n X.env.scope) vs with
        | some a, some b => if (a.length = b.length && decide (a.length ≤ 15)) = true then some (Ir.dct (a.zip b)) else none
        | _, _ => none) = some i at h
      split at h
      · rename_i a b e1 e2
        split at h
        · rename_i hc
          cases h
          simp only [Bool.and_eq_true, decide_eq_true_eq] at hc
          exact mkT (e_dct (kvs_of (fun e i h => (S e i h).E) e1 e2 hc.1) (by rw [List.length_zip]; omega))
        · cases h
      · cases h
    | BinOp a op b pos =>
      change (match compE g N n X.env.scope a, compE g N n X.env.scope b with
        | some i, some j => some (Ir.bin op i j)
        | _, _ => none) = some i at h
      split at h
      · rename_i ia ib e1 e2
        cases h
        obtain ⟨E, T⟩ := e_bin (op := op) (pos := pos) hK (S _ _ e1).B (S _ _ e2).B
        exact ⟨E, E.b rfl, T, T.set rfl, E.c fun _ => rfl⟩
      · cases h
    | UnaryOp op a pos =>
      cases op with
      | Not =>
        obtain ⟨ia, e1, rfl⟩ := Option.map_eq_some_iff.mp (show (compE g N n X.env.scope a).map Ir.not = some i from h)
        obtain ⟨E, Cc⟩ := e_not (pos := pos) (S _ _ e1).E (S _ _ e1).C
        exact mkE E Cc
      | USub =>
        obtain ⟨ia, e1, rfl⟩ := Option.map_eq_some_iff.mp (show (compE g N n X.env.scope a).map Ir.neg = some i from h)
        exact mkP (e_neg (S _ _ e1).E)
      | _ => cases h
    | BoolOp op es pos =>
      cases op with
      | And =>
        change (if decide (2 ≤ es.length) = true then (mapO (compE g N n X.env.scope) es).bind (foldB .and) else none) = some i at h
        split at h
        · rename_i hl
          obtain ⟨is, e1, e2⟩ := Option.bind_eq_some_iff.mp h
          have P := mapO_paired e1
          obtain ⟨E, W⟩ := boolAnd (pos := pos) (paired_mono (fun e i h => ⟨(S e i h).E, (S e i h).C⟩) P) e2
          obtain ⟨h1, h2, h3⟩ := boolB (fun a b => ⟨rfl, rfl, rfl⟩) e2 (by rw [← paired_length P]; exact of_decide_eq_true hl)
          exact mkE E W.c h1 h2 h3
        · cases h
      | Or =>
        change (if decide (2 ≤ es.length) = true then (mapO (compE g N n X.env.scope) es).bind (foldB .or) else none) = some i at h
        split at h
        · rename_i hl
          obtain ⟨is, e1, e2⟩ := Option.bind_eq_some_iff.mp h
          have P := mapO_paired e1
          obtain ⟨E, W⟩ := boolOr (pos := pos) (paired_mono (fun e i h => ⟨(S e i h).E, (S e i h).C⟩) P) e2
          obtain ⟨h1, h2, h3⟩ := boolB (fun a b => ⟨rfl, rfl, rfl⟩) e2 (by rw [← paired_length P]; exact of_decide_eq_true hl)
          exact mkE E W.c h1 h2 h3
        · cases h
    | Compare a ops cs pos =>
      match ops, cs, h with
      | [op], [b], h =>
        have norm : (match compE g N n X.env.scope a with
            | none => none
            | some ia => (compE g N n X.env.scope b).map (Ir.cmp op ia)) = some i → Sd C cf X (.Compare a [op] [b] pos) i := by
          intro h
          split at h
          · cases h
          · rename_i ia e1
            obtain ⟨ib, e2, rfl⟩ := Option.map_eq_some_iff.mp h
            obtain ⟨E, Cc⟩ := e_cmp (op := op) (pos := pos) hK ok.un (S _ _ e1).B (S _ _ e2).B (comp_nst e2)
            exact mkE E Cc
        cases op with
        | Is =>
          change (match compE g N n X.env.scope a with
            | none => none
            | some ia => if isCst b = true then some (Ir.isN ia) else none) = some i at h
          split at h
          · cases h
          · rename_i ia e1
            split at h
            · rename_i hb
              cases h
              unfold isCst at hb
              split at hb
              · obtain ⟨E, Cc⟩ := e_isN (pos := pos) (S _ _ e1).B
                exact mkE E Cc
              · cases hb
            · cases h
        | IsNot =>
          change (match compE g N n X.env.scope a with
            | none => none
            | some ia => if isCst b = true then some (Ir.notN ia) else none) = some i at h
          split at h
          · cases h
          · rename_i ia e1
            split at h
            · rename_i hb
              cases h
              unfold isCst at hb
              split at hb
              · obtain ⟨E, Cc⟩ := e_notN (pos := pos) (S _ _ e1).B
                exact mkE E Cc
              · cases hb
            · cases h
        | _ => exact norm h
      | [op, op'], [b, c], h =>
        change (match compE g N n X.env.scope a, compE g N n X.env.scope b, compE g N n X.env.scope c with
          | some i, some j, some k => some (Ir.chain op op' i j k)
          | _, _, _ => none) = some i at h
        split at h
        · rename_i ia ib ic e1 e2 e3
          cases h
          obtain ⟨E, Cc⟩ := e_chain (op := op) (op' := op') (pos := pos) hK ok.un (S _ _ e1).B (S _ _ e2).B (S _ _ e3).B (comp_nst e3)
          exact mkE E Cc
        · cases h
      | [], _, h => cases h
      | [_], [], h => cases h
      | [_], _ :: _ :: _, h => cases h
      | [_, _], [], h => cases h
      | [_, _], [_], h => cases h
      | [_, _], _ :: _ :: _ :: _, h => cases h
      | _ :: _ :: _ :: _, _, h => cases h
    | IfExp c a b pos =>
      change (match compE g N n X.env.scope c, compE g N n X.env.scope a, compE g N n X.env.scope b with
        | some i, some j, some k => some (Ir.ite i j k)
        | _, _, _ => none) = some i at h
      split at h
      · rename_i ic ia ib e1 e2 e3
        cases h
        obtain ⟨E, Cc⟩ := e_ite (pos := pos) (S _ _ e1).C (S _ _ e2).E (S _ _ e3).E (S _ _ e2).C (S _ _ e3).C
        exact mkE E Cc
      · cases h
    | Attribute a f pos =>
      change (match compE g N n X.env.scope a, g.fld.lookup f with
        | some i, some cs => some (Ir.fld i f cs)
        | _, _ => none) = some i at h
      split at h
      · rename_i ia cs e1 e2
        cases h
        exact mkP (e_fld hK (S _ _ e1).B (comp_nsup e1) (ok.fld f cs e2))
      · cases h
    | Subscript a sl pos =>
      have plain : (match compE g N n X.env.scope a, compE g N n X.env.scope sl with
          | some x, some y => some (Ir.sub x y)
          | _, _ => none) = some i → Sd C cf X (.Subscript a sl pos) i := by
        intro h
        split at h
        · rename_i ia ib e1 e2
          cases h
          exact mkP (e_sub hK ok.un (S _ _ e1).B (S _ _ e2).E (comp_nst e2))
        · cases h
      cases sl with
      | Slice lo hi step p2 =>
        cases step with
        | none =>
          cases lo with
          | none =>
            cases hi with
            | none =>
              change (match compE g N n X.env.scope a with
                | none => none
                | some i => some (Ir.cut i none none)) = some i at h
              split at h
              · cases h
              · rename_i ia e1
                cases h
                exact mkT (e_cut ok.hK (S _ _ e1).B (.inl ⟨rfl, rfl⟩) (.inl ⟨rfl, rfl⟩))
            | some hx =>
              change (match compE g N n X.env.scope a with
                | none => none
                | some i => (compE g N n X.env.scope hx).map fun k => Ir.cut i none (some k)) = some i at h
              split at h
              · cases h
              · rename_i ia e1
                obtain ⟨k, e2, rfl⟩ := Option.map_eq_some_iff.mp h
                exact mkT (e_cut ok.hK (S _ _ e1).B (.inl ⟨rfl, rfl⟩) (.inr ⟨_, _, rfl, rfl, (S _ _ e2).E⟩))
          | some lx =>
            cases hi with
            | none =>
              change (match compE g N n X.env.scope a with
                | none => none
                | some i => match compE g N n X.env.scope lx with
                  | none => none
                  | some j => some (Ir.cut i (some j) none)) = some i at h
              split at h
              · cases h
              · rename_i ia e1
                split at h
                · cases h
                · rename_i il e2
                  cases h
                  exact mkT (e_cut ok.hK (S _ _ e1).B (.inr ⟨_, _, rfl, rfl, (S _ _ e2).E⟩) (.inl ⟨rfl, rfl⟩))
            | some hx =>
              change (match compE g N n X.env.scope a with
                | none => none
                | some i => match compE g N n X.env.scope lx with
                  | none => none
                  | some j => (compE g N n X.env.scope hx).map fun k => Ir.cut i (some j) (some k)) = some i at h
              split at h
              · cases h
              · rename_i ia e1
                split at h
                · cases h
                · rename_i il e2
                  obtain ⟨k, e3, rfl⟩ := Option.map_eq_some_iff.mp h
                  exact mkT (e_cut ok.hK (S _ _ e1).B (.inr ⟨_, _, rfl, rfl, (S _ _ e2).E⟩) (.inr ⟨_, _, rfl, rfl, (S _ _ e3).E⟩))
        | some st =>
          have h := plain h
          exact h
      | _ => exact plain h
    | Call f as kws pos =>
      cases f with
      | Name x p =>
        change (if (glB X.env.scope x && okN x) = true then (match (generalizing := false) g.fns.lookup x with
          | some (ps, sh) => match (generalizing := false) mapO (compE g N n X.env.scope) as, kwN kws, mapO (fun k : Keyword => compE g N n X.env.scope k.value) kws with
            | some a, some ks, some b => (ordOf ps sh a.length ks).map fun o => Ir.call x (a ++ b) o
            | _, _, _ => none
          | none => match (generalizing := false) g.cls.lookup x with
            | some (ps, sh) => (match (generalizing := false) mapO (compE g N n X.env.scope) as, kws with
              | some a, [] => if a.length = ps.length then some (Ir.new x a) else none
              | _, _ => none)
            | none => match (generalizing := false) kws with
              | [] => if (x == "isinstance") = true then (match (generalizing := false) as with
                  | [a, .Name t _] => if (glB X.env.scope t && okN t && (tys.contains t || (g.cls.lookup t).isSome)) = true then (compE g N n X.env.scope a).map fun i => Ir.isi i [t] (g.cls.map (·.1)) else none
                  | [a, .Tuple ts _ _] => (match (generalizing := false) mapO (tyN X.env.scope) ts with
                    | some us => if (decide (1 ≤ us.length) && decide (us.length ≤ 100)) = true then (compE g N n X.env.scope a).map fun i => Ir.isi i us (g.cls.map (·.1)) else none
                    | none => none)
                  | _ => none)
                else match (generalizing := false) bis.lookup x with
                  | some b => (mapO (compE g N n X.env.scope) as).map (Ir.bi b)
                  | none => none
              | _ => none) else none) = some i at h
        split at h
        · rename_i hc
          have hc := Bool.and_eq_true_iff.mp hc
          have hg := gl_of (X := X) hc.1
          obtain ⟨hd, hn⟩ := okN_d hc.2
          split at h
          · rename_i ps sh e1
            split at h
            · rename_i a ks b e2 e3 e4
              obtain ⟨o, e5, rfl⟩ := Option.map_eq_some_iff.mp h
              obtain ⟨fa, Fa⟩ := ok.fns x ps sh e1
              have P := mapO_paired e2
              have P2 := mapO_paired e4
              exact mkT (e_call Fa hg hd (a_of (paired_mono (fun e i h => EN h) P)) (paired_length P) (paired_left (fun e i h => comp_nst h) P) (k_of (paired_mono (fun k i h => (S _ _ h).E) P2)) (paired_length P2) e3 e5)
            · cases h
          · split at h
            · rename_i ps sh e1
              split at h
              · rename_i a e2
                split at h
                · rename_i hl
                  cases h
                  have P := mapO_paired e2
                  exact mkP (e_new (ok.cls x ps sh e1) hg hd (a_of (paired_mono (fun e i h => EN h) P)) (paired_length P) (paired_left (fun e i h => comp_nst h) P) hl)
                · cases h
              · cases h
            · split at h
              · split at h
                · rename_i hx
                  have hx : x = "isinstance" := eq_of_beq hx
                  subst hx
                  split at h
                  · rename_i a t p2
                    split at h
                    · rename_i hc2
                      have hc2 := Bool.and_eq_true_iff.mp hc2
                      obtain ⟨ia, e2, rfl⟩ := Option.map_eq_some_iff.mp h
                      have hc3 := Bool.and_eq_true_iff.mp hc2.1
                      refine mkP (e_isi1 hK ok.cle hg hm (S _ _ e2).B (comp_nst e2) (gl_of hc3.1) ?_)
                      cases htt : tys.contains t with
                      | true => exact .inl rfl
                      | false =>
                        rw [htt, Bool.false_or] at hc2
                        obtain ⟨pr, epr⟩ := Option.isSome_iff_exists.mp hc2.2
                        have hmem : t ∈ g.cls.map (·.1) := List.mem_map.mpr ⟨(t, pr), lookup_mem' epr, rfl⟩
                        exact .inr ⟨hmem, ok.clm t hmem, (okN_d hc3.2).1, rfl⟩
                    · cases h
                  · rename_i a ts k p2
                    split at h
                    · rename_i us e2
                      split at h
                      · rename_i hc2
                        simp only [Bool.and_eq_true, decide_eq_true_eq] at hc2
                        obtain ⟨ia, e3, rfl⟩ := Option.map_eq_some_iff.mp h
                        exact mkP (e_isiT hK ok.cle hg hm (S _ _ e3).B (comp_nst e3) e2 hc2.1 hc2.2)
                      · cases h
                    · cases h
                  · cases h
                · split at h
                  · rename_i b e2
                    obtain ⟨a, e3, rfl⟩ := Option.map_eq_some_iff.mp h
                    have P := mapO_paired e3
                    exact mkT (e_bi hK ok.calm ok.un hg hc.2 e2 hm (ab_of (paired_mono (fun e i h => BN h) P)) (paired_length P) (paired_left (fun e i h => comp_nst h) P))
                  · cases h
              · cases h
        · cases h
      | Attribute o m ap =>
        cases kws with
        | cons _ _ => cases h
        | nil =>
          change (if (ap.endLine == pos.line) = false then none else if (m == "join") = true then (match (generalizing := false) as with
            | [a] => match (generalizing := false) compE g N n X.env.scope o, compE g N n X.env.scope a with
              | some i, some j => some (Ir.join i j)
              | _, _ => none
            | _ => none)
          else match (generalizing := false) compE g N n X.env.scope o, mapO (compE g N n X.env.scope) as with
            | some i, some a => some (Ir.meth m i a)
            | _, _ => none) = some i at h
          split at h
          · cases h
          · rename_i hl
            have hl : (ap.endLine == pos.line) = true := by simpa using hl
            split at h
            · rename_i hx
              have hx : m = "join" := eq_of_beq hx
              subst hx
              split at h
              · rename_i a
                split at h
                · rename_i io ia e1 e2
                  cases h
                  exact mkP (e_join (S _ _ e1).E (S _ _ e2).B (comp_nsup e1) (comp_nst e2) hl)
                · cases h
              · cases h
            · split at h
              · cases h
                refine mkP ?_
                intro θ F H ow st σ env d st1 Q ok en ev k
                unfold evI at ev
                cases ev
              · cases h
      | _ => cases h
    | ListComp elt gens scope pos =>
      match gens, h with
      | [⟨tg, it, ifs, az⟩], h =>
        by_cases hz : az = 0
        case neg =>
          exfalso
          cases az with
          | ofNat k => cases k with
            | zero => exact hz rfl
            | succ k => cases h
          | negSucc k => cases h
        subst hz
        change (match ownOf N (tgNs tg) with
          | none => none
          | some own => if (blkC N X.env.scope scope own && decide (ifs.length ≤ 1)) = true then (match tgOf N scope tg, itOf g X.env.scope (compE g N n X.env.scope) tg it, mapO (compE g N n (relS scope X.env.scope)) ifs, compE g N n (relS scope X.env.scope) elt with
            | some t, some (im, its), some c, some b => some (Ir.lc (own.map (·.2)) t im its c b)
            | _, _, _, _ => none) else none) = some i at h
        split at h
        · cases h
        · rename_i own e0
          split at h
          · rename_i hc
            have hc := Bool.and_eq_true_iff.mp hc
            split at h
            · rename_i t im its c b e1 e2 e3 e4
              cases h
              obtain ⟨es, h1, h2, h3, h9⟩ := it_inv hK hm e2
              have hix : ∀ i ∈ tgIx t, i ∈ own.map (·.2) := fun j hj => by
                obtain ⟨x, hx, hi⟩ := tg_ix tg t e1 j hj
                obtain ⟨j', h4, h5⟩ := own_ix e0 x hx
                rw [hi] at h4
                cases h4
                exact h5
              have hic : Paired (CBOk C cf X scope) ifs c := paired_mono (fun e i h s H c cl fp => (ih (X.blk s H scope (compEnvC scope cl c X.env) fp) (ok.blk s H scope _ fp) e i h).C) (mapO_paired e3)
              have hel : EBOk C cf X scope elt b := fun s H c cl fp => (ih (X.blk s H scope (compEnvC scope cl c X.env) fp) (ok.blk s H scope _ fp) elt b e4).E
              have hfs := fold_it h9 X.env
              have T := e_lc (pos := pos) hK ok.hN ok.nd ok.calm (blkOk_by hc.1) e1 hix h1 (lb_of (paired_mono (fun e i h => BN h) h2) h3) hic (of_decide_eq_true hc.2) hel hfs
              refine ⟨T.e, T.e.b rfl, T, ?_, T.e.c fun _ => rfl⟩
              intro y j py spos nd hj hl hf θ F H ow st σ env t' st1 D okh en ev k
              obtain ⟨bb, hsw, hloc⟩ := sw_lc (elt := elt) (gs := [⟨tg, it, ifs, 0⟩]) (scope := scope) (pos := pos) (py := py) (y := y) (l := spos.line) (env := X.env)
              cases bb with
              | false => exact ss (ps_set nd hj hl pe_sem hsw hf) (T θ F H ow st σ env t' st1 _ okh en ev fun v θ' F' H' ow' s o r => k v θ' F' H' ow' s o r)
              | true =>
                refine ss (ps_setLc (g := gTg X.K t) (tt := tTests X scope ifs) (te := SemBE X scope elt) ok.calm nd hj (hloc rfl) hsw pi_sem (by rw [ok.hN]; exact blkOk_by hc.1) (comp_pg ok.hN ok.nd ok.calm e1) (fun s H c cl fp => ptests (of_decide_eq_true hc.2) s H c cl fp) (fun s H c cl fp => pbe s H c cl fp) hfs) ?_
                exact lc_run hK ok.hN ok.nd ok.calm (blkOk_by hc.1) e1 hix h1 (lb_of (paired_mono (fun e i h => BN h) h2) h3) hic (of_decide_eq_true hc.2) hel hfs θ F H ow st σ env t' st1 _ okh en ev fun v θ' F' H' ow' s o r => k v θ' F' H' ow' s o r
            · cases h
          · cases h
      | [], h => cases h
      | ⟨_, _, _, az⟩ :: _ :: _, h =>
        cases az with
        | ofNat k => cases k with
          | zero => cases h
          | succ k => cases h
        | negSucc k => cases h
    | DictComp kx vx gens scope pos =>
      match gens, h with
      | [⟨tg, it, ifs, az⟩], h =>
        by_cases hz : az = 0
        case neg =>
          exfalso
          cases az with
          | ofNat k => cases k with
            | zero => exact hz rfl
            | succ k => cases h
          | negSucc k => cases h
        subst hz
        change (match ownOf N (tgNs tg) with
          | none => none
          | some own => if (blkC N X.env.scope scope own && decide (ifs.length ≤ 1)) = true then (match tgOf N scope tg, itOf g X.env.scope (compE g N n X.env.scope) tg it, mapO (compE g N n (relS scope X.env.scope)) ifs, compE g N n (relS scope X.env.scope) kx, compE g N n (relS scope X.env.scope) vx with
            | some t, some (im, its), some c, some a, some b => some (Ir.dc (own.map (·.2)) t im its c a b)
            | _, _, _, _, _ => none) else none) = some i at h
        split at h
        · cases h
        · rename_i own e0
          split at h
          · rename_i hc
            have hc := Bool.and_eq_true_iff.mp hc
            split at h
            · rename_i t im its c a b e1 e2 e3 e4 e5
              cases h
              obtain ⟨es, h1, h2, h3, h9⟩ := it_inv hK hm e2
              have hix : ∀ i ∈ tgIx t, i ∈ own.map (·.2) := fun j hj => by
                obtain ⟨x, hx, hi⟩ := tg_ix tg t e1 j hj
                obtain ⟨j', h4, h5⟩ := own_ix e0 x hx
                rw [hi] at h4
                cases h4
                exact h5
              have hic : Paired (CBOk C cf X scope) ifs c := paired_mono (fun e i h s H c cl fp => (ih (X.blk s H scope (compEnvC scope cl c X.env) fp) (ok.blk s H scope _ fp) e i h).C) (mapO_paired e3)
              have hkl : EBOk C cf X scope kx a := fun s H c cl fp => (ih (X.blk s H scope (compEnvC scope cl c X.env) fp) (ok.blk s H scope _ fp) kx a e4).E
              have hel : EBOk C cf X scope vx b := fun s H c cl fp => (ih (X.blk s H scope (compEnvC scope cl c X.env) fp) (ok.blk s H scope _ fp) vx b e5).E
              have hfs := fold_it h9 X.env
              have T := e_dc (pos := pos) hK ok.hN ok.nd ok.calm (blkOk_by hc.1) e1 hix h1 (lb_of (paired_mono (fun e i h => BN h) h2) h3) hic (of_decide_eq_true hc.2) hkl hel hfs
              refine ⟨T.e, T.e.b rfl, T, ?_, T.e.c fun _ => rfl⟩
              intro y j py spos nd hj hl hf θ F H ow st σ env t' st1 D okh en ev k
              obtain ⟨bb, hsw, hloc⟩ := sw_dc (kx := kx) (vx := vx) (gs := [⟨tg, it, ifs, 0⟩]) (scope := scope) (pos := pos) (py := py) (y := y) (l := spos.line) (env := X.env)
              cases bb with
              | false => exact ss (ps_set nd hj hl pe_sem hsw hf) (T θ F H ow st σ env t' st1 _ okh en ev fun v θ' F' H' ow' s o r => k v θ' F' H' ow' s o r)
              | true =>
                refine ss (ps_setDc (g := gTg X.K t) (tt := tTests X scope ifs) (tk := SemBE X scope kx) (tv := SemBE X scope vx) ok.calm nd hj (hloc rfl) hsw pi_sem (by rw [ok.hN]; exact blkOk_by hc.1) (comp_pg ok.hN ok.nd ok.calm e1) (fun s H c cl fp => ptests (of_decide_eq_true hc.2) s H c cl fp) (fun s H c cl fp => pbe s H c cl fp) (fun s H c cl fp => pbe s H c cl fp) hfs) ?_
                exact dc_run hK ok.hN ok.nd ok.calm (blkOk_by hc.1) e1 hix h1 (lb_of (paired_mono (fun e i h => BN h) h2) h3) hic (of_decide_eq_true hc.2) hkl hel hfs θ F H ow st σ env t' st1 _ okh en ev fun v θ' F' H' ow' s o r => k v θ' F' H' ow' s o r
            · cases h
          · cases h
      | [], h => cases h
      | ⟨_, _, _, az⟩ :: _ :: _, h =>
        cases az with
        | ofNat k => cases k with
          | zero => cases h
          | succ k => cases h
        | negSucc k => cases h
    | _ => cases h
end
end Ev
/-! EvY1 -/
namespace Ev
open PySem PySem.Spec PyProof.Rows L2
/-! ### the state within a def -/
structure Start where
  θ : Toks
  F : Hp
  H : Hp
  ow : OwF
structure FI (C : Ctx) (S : Start) (θ : Toks) (F H : Hp) (ow : OwF) (st : Sst) (σ : L2.St) (env : Env) : Prop where
  s : Stp S.θ S.F S.H S.ow θ F H ow
  o : Hok θ F H ow st
  e : EnvOk C θ F H ow σ env
  n : ∀ a k, ow a = some k → k ≠ .strm → S.H a = none
def Sx (θ : Toks) (F : Hp) (θ' : Toks) (F' : Hp) : Prop := Tle θ θ' ∧ ∀ a o, F a = some o → F' a = some o
theorem Sx.refl {θ : Toks} {F : Hp} : Sx θ F θ F := ⟨Tle.refl _, fun _ _ h => h⟩
theorem Sx.trans {θ θ' θ'' : Toks} {F F' F'' : Hp} (a : Sx θ F θ' F') (b : Sx θ' F' θ'' F'') : Sx θ F θ'' F'' := ⟨a.1.trans b.1, fun x o h => b.2 x o (a.2 x o h)⟩
theorem Sx.le {θ θ' : Toks} {F F' : Hp} (a : Sx θ F θ' F') : Le F F' := Le.of_ext a.2
section
variable {C : Ctx} {S : Start} {θ θ' : Toks} {F F' H H' : Hp} {ow ow' : OwF} {st st' : Sst} {σ : L2.St} {env : Env}
theorem Stp.sx (s : Stp θ F H ow θ' F' H' ow') : Sx θ F θ' F' := ⟨s.th, s.fx⟩
theorem FI.ext (fi : FI C S θ F H ow st σ env) (s : Stp θ F H ow θ' F' H' ow') (o : Hok θ' F' H' ow' st') : FI C S θ' F' H' ow' st' σ env := by
  refine ⟨fi.s.trans fi.o s, o, fi.e.stp s, fun a i e hi => ?_⟩
  cases h : S.H a with
  | none => rfl
  | some u =>
    obtain ⟨u', e'⟩ := fi.s.live fi.o h
    rw [s.oo a u' e'] at e
    rw [fi.n a i e hi] at h
    cases h
open Classical in
/-- the things of the slots is are frozen -/
theorem FI.frzn (fi : FI C S θ F H ow st σ env) (is : List Nat) : ∃ F' ow', FI C S θ F' H ow' st σ (frz is env) ∧ Sx θ F θ F' := by
  let own : Addr → Prop := fun a => ∃ i ∈ is, ow a = some (.slot i)
  let F' : Hp := fun a => if own a then H a else F a
  let ow' : OwF := fun a => if own a then none else ow a
  have hF : ∀ a o, F a = some o → ¬ own a := fun a o e ⟨i, _, h⟩ => by rw [fi.o.sep a o e] at h; cases h
  have hS : ∀ a o, S.H a = some o → ¬ own a := fun a o e ⟨i, _, h⟩ => by rw [fi.n a _ h (fun z => by cases z)] at e; cases e
  have fx : ∀ a o, F a = some o → F' a = some o := fun a o e => by
    show (if own a then H a else F a) = some o
    rw [if_neg (hF a o e)]
    exact e
  have hs : ∀ a, ow a = some .strm → ow' a = some .strm := fun a e => by
    show (if own a then none else ow a) = _
    rw [if_neg (fun ⟨i, _, h⟩ => by rw [e] at h; cases h)]
    exact e
  refine ⟨F', ow', ⟨⟨fi.s.th, fun a o e => fx a o (fi.s.fx a o e), fi.s.ex, fun a o e => ?_, fun a o e n z0 z => ?_⟩, ⟨fun a o e => ?_, fun a o e => ?_, fun a k e => ?_, ?_⟩, ?_, fun a i e hi => ?_⟩, Tle.refl _, fx⟩
  · show (if own a then none else ow a) = _
    rw [if_neg (hS a o e)]
    exact fi.s.oo a o e
  · show (if own a then H a else F a) = _
    rw [if_neg (hS a o e)]
    exact fi.s.fn a o e n z0 z
  · have e : (if own a then H a else F a) = some o := e
    split at e
    · exact .inl e
    · exact fi.o.le a o e
  · have e : (if own a then H a else F a) = some o := e
    show (if own a then none else ow a) = _
    split at e
    · rename_i h
      rw [if_pos h]
    · rename_i h
      rw [if_neg h]
      exact fi.o.sep a o e
  · have e : (if own a then none else ow a) = some k := e
    split at e
    · cases e
    · exact fi.o.liv a k e
  · have h := fi.o.str
    cases st with
    | none => exact h
    | some s8 =>
      obtain ⟨p, l, e1, e2, e3, e4, e5, e6⟩ := h
      exact ⟨p, l, e1, e2, e3, e4, hs p e5, hs l e6⟩
  · refine ⟨by unfold frz; rw [List.length_mapIdx]; exact fi.e.1, fun j t e => ?_⟩
    unfold frz at e
    rw [List.getElem?_mapIdx] at e
    obtain ⟨t0, e1, e2⟩ := Option.map_eq_some_iff.mp e
    have mf : Le F F' := Le.of_ext fx
    by_cases hj : is.contains j = true
    · rw [if_pos hj] at e2
      obtain ⟨t1, rfl, rfl⟩ := Option.map_eq_some_iff.mp e2
      obtain ⟨v, ev, r⟩ := fi.e.2 j t1 e1
      refine ⟨v, ev, ?_⟩
      have hj' : j ∈ is := by simpa using hj
      have at_ : ∀ a, ow a = some (.slot j) → F' a = H a := fun a h => by
        show (if own a then H a else F a) = H a
        rw [if_pos ⟨j, hj', h⟩]
      cases t1 with
      | fz d => exact R.mono mf (Tle.refl _) d v r
      | ol ds =>
        obtain ⟨a, vs, rfl, h1, h2, rr⟩ := r
        exact ⟨a, vs, rfl, by rw [at_ a h1]; exact h2, Rs.mono mf (Tle.refl _) _ _ rr⟩
      | od kvs =>
        obtain ⟨a, vs, rfl, h1, h2, rr⟩ := r
        exact ⟨a, vs, rfl, .inl (by rw [at_ a h1]; exact h2), RK.mono mf (Tle.refl _) _ _ rr⟩
      | oo c fs =>
        obtain ⟨a, dx, vs, rfl, h1, h2, rr⟩ := r
        exact ⟨a, dx, vs, rfl, by rw [at_ a h1]; exact h2, RF.mono mf (Tle.refl _) _ _ rr⟩
    · rw [if_neg hj] at e2
      subst e2
      obtain ⟨v, ev, r⟩ := fi.e.2 j t e1
      refine ⟨v, ev, ?_⟩
      have at_ : ∀ a, ow a = some (.slot j) → ow' a = some (.slot j) := fun a h => by
        show (if own a then none else ow a) = _
        rw [if_neg (fun ⟨i, hi, h'⟩ => hj (by rw [h] at h'; cases h'; simpa using hi))]
        exact h
      cases t with
      | fz d => exact R.mono mf (Tle.refl _) d v r
      | ol ds =>
        obtain ⟨a, vs, rfl, h1, h2, rr⟩ := r
        exact ⟨a, vs, rfl, at_ a h1, h2, Rs.mono mf (Tle.refl _) _ _ rr⟩
      | od kvs =>
        obtain ⟨a, vs, rfl, h1, h2, rr⟩ := r
        exact ⟨a, vs, rfl, at_ a h1, h2, RK.mono mf (Tle.refl _) _ _ rr⟩
      | oo c fs =>
        obtain ⟨a, dx, vs, rfl, h1, h2, rr⟩ := r
        exact ⟨a, dx, vs, rfl, at_ a h1, h2, RF.mono mf (Tle.refl _) _ _ rr⟩
  · have e : (if own a then none else ow a) = some i := e
    split at e
    · cases e
    · exact fi.n a i e hi
theorem OwnT.reow {k : Ow} (h : ∀ a, ow a = some k → ow' a = some k) {t : T} {v : V} (r : OwnT C θ F H ow k t v) : OwnT C θ F H ow' k t v := by
  cases t with
  | fz d => exact r
  | ol ds => obtain ⟨a, vs, e, h1, x⟩ := r; exact ⟨a, vs, e, h a h1, x⟩
  | od kvs => obtain ⟨a, vs, e, h1, x⟩ := r; exact ⟨a, vs, e, h a h1, x⟩
  | oo c fs => obtain ⟨a, dx, vs, e, h1, x⟩ := r; exact ⟨a, dx, vs, e, h a h1, x⟩
/-- a thing gets a new owner -/
theorem FI.reown (fi : FI C S θ F H ow st σ env) {a : Addr} {k : Ow} (hs : S.H a = none) (hF : F a = none) (ho : ow a ≠ some .strm) (hsl : ∀ i, ow a ≠ some (.slot i)) (hH : ∃ o, H a = some o ∧ NT o) (hk : k ≠ .strm) :
    ∃ ow' : OwF, FI C S θ F H ow' st σ env ∧ ow' a = some k ∧ ∀ b, b ≠ a → ow' b = ow b := by
  refine ⟨fun b => if b = a then some k else ow b, ⟨⟨fi.s.th, fi.s.fx, fi.s.ex, fun b o e => ?_, fi.s.fn⟩, ⟨fi.o.le, fun b o e => ?_, fun b k e => ?_, ?_⟩, ?_, fun b j e hj => ?_⟩, if_pos rfl, fun b hb => if_neg hb⟩
  · by_cases z : b = a
    · subst z; rw [hs] at e; cases e
    · rw [if_neg z]; exact fi.s.oo b o e
  · by_cases z : b = a
    · subst z; rw [hF] at e; cases e
    · rw [if_neg z]; exact fi.o.sep b o e
  · by_cases z : b = a
    · subst z; exact hH
    · rw [if_neg z] at e; exact fi.o.liv b k e
  · have h := fi.o.str
    cases st with
    | none => exact h
    | some s8 =>
      obtain ⟨p, l, e1, e2, e3, e4, e5, e6⟩ := h
      have ne : ∀ q, ow q = some .strm → (if q = a then some k else ow q) = some .strm := fun q e => by
        rw [if_neg (fun z => by subst z; exact ho e)]; exact e
      exact ⟨p, l, e1, e2, e3, e4, ne p e5, ne l e6⟩
  · refine ⟨fi.e.1, fun j t e => ?_⟩
    obtain ⟨v, ev, r⟩ := fi.e.2 j t e
    exact ⟨v, ev, OwnT.reow (k := .slot j) (ow' := fun b => if b = a then some k else ow b) (r := r) fun b h => by show (if b = a then some k else ow b) = _; rw [if_neg (fun z => by subst z; exact hsl j h)]; exact h⟩
  · by_cases z : b = a
    · subst z; exact hs
    · rw [if_neg z] at e; exact fi.n b j e hj
/-- a fresh thing gets an owner -/
theorem FI.own (fi : FI C S θ F H ow st σ env) {H0 : Hp} (h0 : ∀ a, H0 a = none → S.H a = none) {t : T} {v : V} (r : ResT C θ F H ow H0 t v) {k : Ow} (hk : k ≠ .strm) : ∃ ow', FI C S θ F H ow' st σ env ∧ OwnT C θ F H ow' k t v ∧ (∀ a, ow a ≠ none → ow' a = ow a) := by
  have go : ∀ a, S.H a = none → F a = none → ow a = none → (∃ o, H a = some o ∧ NT o) → ∃ ow' : OwF, FI C S θ F H ow' st σ env ∧ ow' a = some k ∧ (∀ a, ow a ≠ none → ow' a = ow a) := by
    intro a hs hF ho hH
    obtain ⟨ow', f, e, u⟩ := fi.reown hs hF (by rw [ho]; exact fun z => by cases z) (fun i => by rw [ho]; exact fun z => by cases z) hH hk
    exact ⟨ow', f, e, fun b hb => u b fun z => hb (by rw [z]; exact ho)⟩
  cases t with
  | fz d => exact ⟨ow, fi, r, fun _ _ => rfl⟩
  | ol ds =>
    obtain ⟨a, vs, rfl, k0, hF, ho, hH, rr⟩ := r
    obtain ⟨ow', fi', ha, kk⟩ := go a (h0 a k0) hF ho ⟨_, hH, fun _ z => by cases z⟩
    exact ⟨ow', fi', ⟨a, vs, rfl, ha, hH, rr⟩, kk⟩
  | od kvs =>
    obtain ⟨a, vs, rfl, k0, hF, ho, hH, rr⟩ := r
    obtain ⟨ow', fi', ha, kk⟩ := go a (h0 a k0) hF ho ⟨_, hH, fun _ z => by cases z⟩
    exact ⟨ow', fi', ⟨a, vs, rfl, ha, hH, rr⟩, kk⟩
  | oo c fs =>
    obtain ⟨a, dx, vs, rfl, k0, hF, ho, hH, rr⟩ := r
    obtain ⟨ow', fi', ha, kk⟩ := go a (h0 a k0) hF ho ⟨_, hH, fun _ z => by cases z⟩
    exact ⟨ow', fi', ⟨a, dx, vs, rfl, ha, hH, rr⟩, kk⟩
/-- from a temporary owner to a slot -/
theorem FI.move (fi : FI C S θ F H ow st σ env) {k i : Nat} {t : T} {v : V} (r : OwnT C θ F H ow (.tmp k) t v) : ∃ ow', FI C S θ F H ow' st σ env ∧ OwnT C θ F H ow' (.slot i) t v ∧ (∀ a j, j ≠ k → ow a = some (.tmp j) → ow' a = some (.tmp j)) := by
  have go : ∀ a, ow a = some (.tmp k) → (∃ o, H a = some o ∧ NT o) → ∃ ow' : OwF, FI C S θ F H ow' st σ env ∧ ow' a = some (.slot i) ∧ (∀ a j, j ≠ k → ow a = some (.tmp j) → ow' a = some (.tmp j)) := by
    intro a ho hH
    have hF : F a = none := by
      cases e : F a with
      | none => rfl
      | some u => rw [fi.o.sep a u e] at ho; cases ho
    obtain ⟨ow', f, e, u⟩ := fi.reown (k := .slot i) (fi.n a _ ho (fun z => by cases z)) hF (by rw [ho]; exact fun z => by cases z) (fun i => by rw [ho]; exact fun z => by cases z) hH (fun z => by cases z)
    refine ⟨ow', f, e, fun b j hj hb => ?_⟩
    rw [u b fun z => by rw [z, ho] at hb; cases hb; exact hj rfl]
    exact hb
  cases t with
  | fz d => exact ⟨ow, fi, r, fun _ _ _ h => h⟩
  | ol ds =>
    obtain ⟨a, vs, rfl, ho, hH, rr⟩ := r
    obtain ⟨ow', fi', ha, kk⟩ := go a ho ⟨_, hH, fun _ z => by cases z⟩
    exact ⟨ow', fi', ⟨a, vs, rfl, ha, hH, rr⟩, kk⟩
  | od kvs =>
    obtain ⟨a, vs, rfl, ho, hH, rr⟩ := r
    obtain ⟨ow', fi', ha, kk⟩ := go a ho ⟨_, hH, fun _ z => by cases z⟩
    exact ⟨ow', fi', ⟨a, vs, rfl, ha, hH, rr⟩, kk⟩
  | oo c fs =>
    obtain ⟨a, dx, vs, rfl, ho, hH, rr⟩ := r
    obtain ⟨ow', fi', ha, kk⟩ := go a ho ⟨_, hH, fun _ z => by cases z⟩
    exact ⟨ow', fi', ⟨a, dx, vs, rfl, ha, hH, rr⟩, kk⟩
theorem FI.setv (fi : FI C S θ F H ow st σ env) {i : Nat} {t : T} {v : V} (hi : i < env.length) (r : OwnT C θ F H ow (.slot i) t v) : FI C S θ F H ow st (σ.set i (some v)) (env.set i (some t)) := ⟨fi.s, fi.o, fi.e.set hi r, fi.n⟩
/-- a fresh thing goes to a slot -/
theorem FI.give (fi : FI C S θ F H ow st σ env) {H0 : Hp} (h0 : ∀ a, H0 a = none → S.H a = none) {t : T} {v : V} (r : ResT C θ F H ow H0 t v) {i : Nat} (hi : i < env.length) : ∃ ow', FI C S θ F H ow' st (σ.set i (some v)) (env.set i (some t)) ∧ (∀ a, ow a ≠ none → ow' a = ow a) := by
  obtain ⟨ow', f, o, u⟩ := fi.own h0 r (k := .slot i) (fun z => by cases z)
  exact ⟨ow', f.setv hi o, u⟩
/-- an own thing is written -/
theorem FI.chg (fi : FI C S θ F H ow st σ env) {a : Addr} {i : Nat} (ha : ow a = some (.slot i)) (hi : i < env.length) {o : HO} {t : T} {v : V} (hv : σ[i]? = some (some v)) (r : OwnT C θ F (upd H a o) ow (.slot i) t v) (hn : NT o := by (intro _ z; cases z)) : FI C S θ F (upd H a o) ow st σ (env.set i (some t)) := by
  have hF : F a = none := by
    cases e : F a with
    | none => rfl
    | some u => rw [fi.o.sep a u e] at ha; cases ha
  obtain ⟨o1, s1⟩ := Ev.chg (o := o) fi.o fi.s (fi.n a _ ha (fun z => by cases z)) hF (by rw [ha]; exact fun z => by cases z) hn
  refine ⟨s1, o1, ⟨by rw [List.length_set]; exact fi.e.1, fun j u e => ?_⟩, fi.n⟩
  by_cases z : i = j
  · subst z
    rw [List.getElem?_set_self hi] at e
    cases e
    exact ⟨v, hv, r⟩
  · rw [List.getElem?_set_ne z] at e
    obtain ⟨w, ew, q⟩ := fi.e.2 j u e
    refine ⟨w, ew, ?_⟩
    have ne : ∀ b, ow b = some (.slot j) → b ≠ a := fun b h zz => by subst zz; rw [ha] at h; cases h; exact z rfl
    cases u with
    | fz d => exact q
    | ol ds => obtain ⟨b, vs, e, h1, h2, x⟩ := q; exact ⟨b, vs, e, h1, by rw [upd_ne (ne b h1)]; exact h2, x⟩
    | od kvs => obtain ⟨b, vs, e, h1, h2, x⟩ := q; exact ⟨b, vs, e, h1, by rw [upd_ne (ne b h1)]; exact h2, x⟩
    | oo c fs => obtain ⟨b, dx, vs, e, h1, h2, x⟩ := q; exact ⟨b, dx, vs, e, h1, by rw [upd_ne (ne b h1)]; exact h2, x⟩
/-- an own thing is handed out -/
theorem FI.out (fi : FI C S θ F H ow st σ env) {i : Nat} {t : T} (e : env[i]? = some (some t)) : ∃ v ow', σ[i]? = some (some v) ∧ Stp S.θ S.F S.H S.ow θ F H ow' ∧ Hok θ F H ow' st ∧ ResT C θ F H ow' S.H t v := by
  obtain ⟨v, ev, r⟩ := fi.e.2 i t e
  have off : ∀ a, ow a = some (.slot i) → ∃ ow' : OwF, Stp S.θ S.F S.H S.ow θ F H ow' ∧ Hok θ F H ow' st ∧ ow' a = none ∧ F a = none ∧ S.H a = none := by
    intro a ha
    have hs := fi.n a _ ha (fun z => by cases z)
    refine ⟨fun b => if b = a then none else ow b, ⟨fi.s.th, fi.s.fx, fi.s.ex, fun b o e => ?_, fi.s.fn⟩, ⟨fi.o.le, fun b o e => ?_, fun b k e => ?_, ?_⟩, if_pos rfl, ?_, hs⟩
    · rw [if_neg (fun z => by subst z; rw [hs] at e; cases e)]; exact fi.s.oo b o e
    · by_cases z : b = a
      · rw [if_pos z]
      · rw [if_neg z]; exact fi.o.sep b o e
    · by_cases z : b = a
      · rw [if_pos z] at e; cases e
      · rw [if_neg z] at e; exact fi.o.liv b k e
    · have h := fi.o.str
      cases st with
      | none => exact h
      | some s8 =>
        obtain ⟨p, l, e1, e2, e3, e4, e5, e6⟩ := h
        have ne : ∀ q, ow q = some .strm → (if q = a then none else ow q) = some .strm := fun q e => by
          rw [if_neg (fun z => by subst z; rw [ha] at e; cases e)]; exact e
        exact ⟨p, l, e1, e2, e3, e4, ne p e5, ne l e6⟩
    · cases e : F a with
      | none => rfl
      | some u => rw [fi.o.sep a u e] at ha; cases ha
  cases t with
  | fz d => exact ⟨v, ow, ev, fi.s, fi.o, r⟩
  | ol ds =>
    obtain ⟨a, vs, rfl, ha, hH, rr⟩ := r
    obtain ⟨ow', k1, k2, k3, k4, k5⟩ := off a ha
    exact ⟨_, ow', ev, k1, k2, a, vs, rfl, k5, k4, k3, hH, rr⟩
  | od kvs =>
    obtain ⟨a, vs, rfl, ha, hH, rr⟩ := r
    obtain ⟨ow', k1, k2, k3, k4, k5⟩ := off a ha
    exact ⟨_, ow', ev, k1, k2, a, vs, rfl, k5, k4, k3, hH, rr⟩
  | oo c fs =>
    obtain ⟨a, dx, vs, rfl, ha, hH, rr⟩ := r
    obtain ⟨ow', k1, k2, k3, k4, k5⟩ := off a ha
    exact ⟨_, ow', ev, k1, k2, a, dx, vs, rfl, k5, k4, k3, hH, rr⟩
/-! ### what is wanted behind a statement -/
def Fin' (C : Ctx) (S : Start) (θ : Toks) (F : Hp) (fl : Fl) (env1 : Env) (st1 : Sst) (D : Ends) : Prop := match fl with
  | .nx => ∀ σ' θ' F' H' ow', FI C S θ' F' H' ow' st1 σ' env1 → Sx θ F θ' F' → D.nx σ' H'
  | .bk => ∀ σ' θ' F' H' ow', FI C S θ' F' H' ow' st1 σ' env1 → Sx θ F θ' F' → D.bk σ' H'
  | .ct => ∀ σ' θ' F' H' ow', FI C S θ' F' H' ow' st1 σ' env1 → Sx θ F θ' F' → D.ct σ' H'
  | .rt t => ∀ v θ' F' H' ow', Stp S.θ S.F S.H S.ow θ' F' H' ow' → Hok θ' F' H' ow' st1 → ResT C θ' F' H' ow' S.H t v → D.rt v H'
def SOk (C : Ctx) (cf : CallF) (X : Cx) (s : Stmt) (is : Is) : Prop := ∀ S θ F H ow st σ env fl env1 st1 (D : Ends), FI C S θ F H ow st σ env → exS cf is env st = some (fl, env1, st1) → Fin' C S θ F fl env1 st1 D → SemS X s D σ H
def SBOk (C : Ctx) (cf : CallF) (X : Cx) (s : List Stmt) (is : List Is) : Prop := ∀ S θ F H ow st σ env fl env1 st1 (D : Ends), FI C S θ F H ow st σ env → exB cf is env st = some (fl, env1, st1) → Fin' C S θ F fl env1 st1 D → SemB X s D σ H
theorem Fin'.sx {fl : Fl} {env1 : Env} {st1 : Sst} {D : Ends} (h : Fin' C S θ F fl env1 st1 D) (x : Sx θ F θ' F') : Fin' C S θ' F' fl env1 st1 D := by
  cases fl with
  | nx => exact fun σ' θ'' F'' H' ow' fi y => h σ' θ'' F'' H' ow' fi (x.trans y)
  | bk => exact fun σ' θ'' F'' H' ow' fi y => h σ' θ'' F'' H' ow' fi (x.trans y)
  | ct => exact fun σ' θ'' F'' H' ow' fi y => h σ' θ'' F'' H' ow' fi (x.trans y)
  | rt t => exact h
end
end Ev
/-! EvY2 -/
namespace Ev
open PySem PySem.Spec PyProof.Rows L2
section
variable {C : Ctx} {cf : CallF} {X : Cx}
/-! ### d.update(d2) -/
def rUpd (K : PySem.W.Frag) : V → List V → Hp → VK → Prop := fun x vs H Q => ∃ d o kvs more, x = .ref d ∧ vs = [.ref o] ∧ d ≠ o ∧ H d = some (.dK kvs) ∧ Rd H o (.dK more) ∧ kvs.length + more.length ≤ sizeLine ∧ Q .non (upd H d (.dK (mergeK kvs more)))
theorem mt_upd : MtR X "dict.update" (rUpd X.K) := by
  intro pins s σ H x vs v us Q I rx rv h
  obtain ⟨d, o, kvs, more, rfl, rfl, hne, hd, ho, hz, q⟩ := h
  cases rx
  obtain ⟨u, rfl, ru⟩ := rv.one
  cases ru
  obtain ⟨z1, m1, vs1, r1, D1⟩ := dk_of I.hok hd
  obtain ⟨z2, m2, vs2, r2, D2⟩ := dk_rd I.hok ho
  refine call_meetsIn PySem.F.slot_dict_update D1.typeIs PySem.F.entry_dict_update (PySem.F.args_dict_update_2 _ _) (meets_dict_update (mixKind X.prog X.w) d o hne m2)
    ⟨vs1, vs2, D1, D2, (by rw [← r1.length, ← r2.length]; exact hz), fun h' hmm _ hs => ?_⟩
  have hz2 : (mergeK kvs more).length ≤ sizeLine := Nat.le_trans (length_mergeK more kvs) hz
  obtain ⟨ob, ho', hd'⟩ := Heap.dictOf_iff.mp hmm
  refine ⟨.non, _, I.write (t' := s.toks) (x := d) (e := d) (by rw [hd]; trivial) (.inl rfl) (fun b u hb e => (hs.2 b hb).trans e) ⟨_, ho'⟩ (show ObjOk X.prog X.w _ _ _ (.dK (mergeK kvs more)) from ⟨hz2, m1, _, KV.merge r2 r1, hmm⟩), rfl, q⟩
/-! ### methods that write an own list -/
theorem few1 {a : Expr} (h : nst a = true) (cpos : Pos) (env : PySem.Env) : ((backTo cpos (starEach [a] env)).all (fun x => !x.1) && (backToKw cpos (keywordEach [] env)).all (fun x => x.1.isSome)
      && decide (([a] : List Expr).length + ([] : List Keyword).length + (if ([] : List Keyword).isEmpty then 0 else 1) < 30)) = true := by
  rw [star_cons h]
  rfl
theorem pe_meth1 {name : Str} {T id : String} {r : V → List V → Hp → VK → Prop} (pa : PlainAttrs T) (slot : Slot T name id) (hty : typeOf (.builtin id) = pure (.type "method_descriptor")) (hm : MtR X id r) {x : Str} {i : Nat} {a : Expr} {px ap cp : Pos} {N : List Str} (hN : X.N = N) (hi : ix N x = some i) (hv : visB X.env.scope x = true) (ho : okN x = true)
    (ha : nst a = true) (hl : (ap.endLine == cp.line) = true) : PE X (.Call (.Attribute (.Name x px) name ap) [a] [] cp) (tBM X.K T r (tVar i) (tCons (SemE X a) tNil)) :=
  pe_bm pa slot hty hm (n_var hN hi hv ho) (pa_cons pe_sem pa_nil (star_cons ha _ _)) (att_base rfl _ _) (few1 ha cp X.env) hl (star_cons ha _ _) rfl
theorem getL_at {S : Start} {θ : Toks} {F H : Hp} {ow : OwF} {st : Sst} {σ : L2.St} {env : Env} (fi : FI C S θ F H ow st σ env) {x : Nat} {ds : List D} (h : getL env x = some ds) : ∃ l vs, σ[x]? = some (some (.ref l)) ∧ ow l = some (.slot x) ∧ H l = some (.lst vs) ∧ Rs C θ F ds vs ∧ x < env.length := by
  unfold getL at h
  split at h
  · rename_i ds' e
    cases h
    obtain ⟨v, ev, a, vs, rfl, h1, h2, h3⟩ := fi.e.2 x _ e
    exact ⟨a, vs, ev, h1, h2, h3, (List.getElem?_eq_some_iff.mp e).1⟩
  · cases h
theorem getD_at {S : Start} {θ : Toks} {F H : Hp} {ow : OwF} {st : Sst} {σ : L2.St} {env : Env} (fi : FI C S θ F H ow st σ env) {x : Nat} {ds : List (D × D)} (h : getD' env x = some ds) : ∃ l ks, σ[x]? = some (some (.ref l)) ∧ ow l = some (.slot x) ∧ H l = some (.dK ks) ∧ RK C θ F ds ks ∧ x < env.length := by
  unfold getD' at h
  split at h
  · rename_i ds' e
    cases h
    obtain ⟨v, ev, a, vs, rfl, h1, h2, h3⟩ := fi.e.2 x _ e
    exact ⟨a, vs, ev, h1, h2, h3, (List.getElem?_eq_some_iff.mp e).1⟩
  · cases h
theorem slot_ne {x : Nat} {ow : OwF} {l : Addr} (h : ow l = some (.slot x)) : ow l ≠ some .strm := by rw [h]; exact fun z => by cases z
theorem s_app {x : Str} {i : Nat} {a : Expr} {ia : Ir} {px ap cp pos : Pos} {N : List Str} (hN : X.N = N) (hi : ix N x = some i) (hv : visB X.env.scope x = true) (hx : okN x = true) (ha : EOk C cf X a ia) (hs : nst a = true) (hl : (ap.endLine == cp.line) = true) :
    SOk C cf X (.Expr (.Call (.Attribute (.Name x px) "append" ap) [a] [] cp) pos) (.app i ia) := by
  intro S θ F H ow st σ env fl env1 st1 D fi ev k
  unfold exS at ev
  cases e1 : evI cf (frz (us ia) env) ia st with
  | none => rw [e1] at ev; cases ev
  | some p =>
    obtain ⟨d, s1⟩ := p
    rw [e1] at ev
    simp only at ev
    cases e2 : getL (frz (us ia) env) i with
    | none => rw [e2] at ev; cases ev
    | some ds =>
      rw [e2] at ev
      simp only at ev
      split at ev
      · rename_i hf
        cases ev
        obtain ⟨F1, ow1, fi1, x1⟩ := fi.frzn (us ia)
        obtain ⟨l, vs, eσ, hO, hH, rr, hlen⟩ := getL_at fi1 e2
        refine ss (ps_expr (pe_meth1 PySem.F.plainAttrs_list PySem.F.slot_list_append PySem.F.type_list_append mt_append hN hi hv hx hs hl)) ?_
        refine ⟨.ref l, eσ, .inl ⟨rfl, vs, SqL.of hH⟩, ?_⟩
        refine ha θ F1 H ow1 st σ _ d _ _ fi1.o fi1.e e1 fun w θ2 F2 H2 ow2 s2 o2 r2 => ?_
        have hH2 := s2.ex l _ hH (slot_ne hO)
        have hO2 := (s2.oo l _ hH).trans hO
        have rr2 := Rs.mono s2.leF s2.th _ _ rr
        have fi2 := (fi1.ext s2 o2).chg (o := .lst (vs ++ [w])) (t := .ol (ds ++ [d])) hO2 hlen eσ ⟨l, _, rfl, hO2, upd_same, rr2.app ⟨w, [], rfl, r2, rfl⟩⟩
        refine ⟨l, vs, w, rfl, rfl, hH2, ?_, k σ θ2 F2 _ ow2 fi2 (x1.trans s2.sx)⟩
        have := fits_ok hf
        have := rr.length
        omega
      · cases ev
theorem s_ext {x : Str} {i : Nat} {a : Expr} {ia : Ir} {px ap cp pos : Pos} {N : List Str} (hN : X.N = N) (hi : ix N x = some i) (hv : visB X.env.scope x = true) (hx : okN x = true) (ha : BOk C cf X a ia) (hs : nst a = true) (hl : (ap.endLine == cp.line) = true) :
    SOk C cf X (.Expr (.Call (.Attribute (.Name x px) "extend" ap) [a] [] cp) pos) (.ext i ia) := by
  intro S θ F H ow st σ env fl env1 st1 D fi ev k
  unfold exS at ev
  cases e1 : brw (frz (usB ia (us ia)) env) ia st (evI cf (frz (usB ia (us ia)) env) ia st) with
  | none => rw [e1] at ev; cases ev
  | some p =>
    obtain ⟨d, s1⟩ := p
    rw [e1] at ev
    simp only at ev
    cases e2 : getL (frz (usB ia (us ia)) env) i with
    | none => rw [e2] at ev; cases ev
    | some ds =>
      rw [e2] at ev
      simp only at ev
      split at ev
      · rename_i es
        split at ev
        · rename_i hf
          cases ev
          obtain ⟨F1, ow1, fi1, x1⟩ := fi.frzn (usB ia (us ia))
          obtain ⟨l, vs, eσ, hO, hH, rr, hlen⟩ := getL_at fi1 e2
          refine ss (ps_expr (pe_meth1 PySem.F.plainAttrs_list PySem.F.slot_list_extend PySem.F.type_list_extend mt_extend hN hi hv hx hs hl)) ?_
          refine ⟨.ref l, eσ, .inl ⟨rfl, vs, SqL.of hH⟩, ?_⟩
          refine ha θ F1 H ow1 st σ _ _ _ _ fi1.o fi1.e e1 fun w θ2 F2 H2 ow2 s2 o2 r2 => ?_
          obtain ⟨b, zs, rfl, hb, rz⟩ := r2
          have hH2 := s2.ex l _ hH (slot_ne hO)
          have hO2 := (s2.oo l _ hH).trans hO
          have rr2 := Rs.mono s2.leF s2.th _ _ rr
          have fi2 := (fi1.ext s2 o2).chg (o := .lst (vs ++ zs)) (t := .ol (ds ++ es)) hO2 hlen eσ ⟨l, _, rfl, hO2, upd_same, rr2.app rz⟩
          refine ⟨l, b, vs, zs, rfl, rfl, hH2, hn_lst hb, ?_, k σ θ2 F2 _ ow2 fi2 (x1.trans s2.sx)⟩
          have := fits_ok hf
          have := rr.length
          have := rz.length
          omega
        · cases ev
      · cases ev
theorem RK.merge {θ : Toks} {F : Hp} : ∀ {more : List (D × D)} {ms : List (Key × V)} {kvs : List (D × D)} {ks : List (Key × V)}, RK C θ F more ms → RK C θ F kvs ks → RK C θ F (more.foldl (fun a p => dPut a p.1 p.2) kvs) (mergeK ks ms)
  | [], ms, kvs, ks, h, r => by cases (show ms = [] from h); exact r
  | (kd, d) :: more, ms, kvs, ks, h, r => by
    obtain ⟨x, v, m', rfl, hk, rv, rm⟩ := h
    have := RK.merge rm (RK.put hk rv r)
    exact this
theorem s_upd {x : Str} {i : Nat} {a : Expr} {ia : Ir} {px ap cp pos : Pos} {N : List Str} (hN : X.N = N) (hi : ix N x = some i) (hv : visB X.env.scope x = true) (hx : okN x = true) (ha : EOk C cf X a ia) (hs : nst a = true) (hl : (ap.endLine == cp.line) = true) :
    SOk C cf X (.Expr (.Call (.Attribute (.Name x px) "update" ap) [a] [] cp) pos) (.upd i ia) := by
  intro S θ F H ow st σ env fl env1 st1 D fi ev k
  unfold exS at ev
  cases e1 : evI cf (frz (us ia) env) ia st with
  | none => rw [e1] at ev; cases ev
  | some p =>
    obtain ⟨d, s1⟩ := p
    rw [e1] at ev
    simp only at ev
    cases e2 : getD' (frz (us ia) env) i with
    | none => rw [e2] at ev; cases ev
    | some kvs =>
      rw [e2] at ev
      simp only at ev
      split at ev
      · rename_i more
        split at ev
        · rename_i hf
          cases ev
          simp only [Bool.and_eq_true] at hf
          obtain ⟨F1, ow1, fi1, x1⟩ := fi.frzn (us ia)
          obtain ⟨l, ks, eσ, hO, hH, rr, hlen⟩ := getD_at fi1 e2
          refine ss (ps_expr (pe_meth1 PySem.F.plainAttrs_dict PySem.F.slot_dict_update PySem.F.type_dict_update mt_upd hN hi hv hx hs hl)) ?_
          refine ⟨.ref l, eσ, .inr (.inr (.inl ⟨rfl, .inl ⟨ks, hH⟩⟩)), ?_⟩
          refine ha θ F1 H ow1 st σ _ _ _ _ fi1.o fi1.e e1 fun w θ2 F2 H2 ow2 s2 o2 r2 => ?_
          obtain ⟨b, zs, rfl, hb, rz⟩ := r2
          have hH2 := s2.ex l _ hH (slot_ne hO)
          have hO2 := (s2.oo l _ hH).trans hO
          have rr2 := RK.mono s2.leF s2.th _ _ rr
          have hne : l ≠ b := fun z => by
            subst z
            rcases hb with hb | ⟨_, hb⟩
            · rw [o2.sep _ _ hb] at hO2; cases hO2
            · rw [o2.sep _ _ hb] at hO2; cases hO2
          have fi2 := (fi1.ext s2 o2).chg (o := .dK (mergeK ks zs)) (t := .od (more.foldl (fun a p => dPut a p.1 p.2) kvs)) hO2 hlen eσ ⟨l, _, rfl, hO2, upd_same, RK.merge rz rr2⟩
          refine ⟨l, b, ks, zs, rfl, rfl, hne, hH2, o2.le.rd hb, ?_, k σ θ2 F2 _ ow2 fi2 (x1.trans s2.sx)⟩
          have := fits_ok hf.2
          have := RK.length rr
          have := RK.length rz
          omega
        · cases ev
      · cases ev
/-! ### x[i] = e -/
def rSetLD : TSet := fun o i v H Q => rSetL o i v H Q ∨ rSetD o i v H Q
theorem set_ld (hu : X.A.units + 200 < cLine) : PSet X rSetLD := by
  intro pins s σ H o i v ov iv u Q I ro ri rv h
  rcases h with h | h
  · exact set_list pins s σ H o i v ov iv u Q I ro ri rv h
  · exact set_dict (by omega) pins s σ H o i v ov iv u Q I ro ri rv h
theorem Rs.setd {θ : Toks} {F : Hp} {d : D} {v : V} (q : R C θ F d v) : ∀ {ds : List D} {vs : List V} (m : Nat), Rs C θ F ds vs → Rs C θ F (ds.set m d) (vs.set m v)
  | [], _, m, h => by cases (show _ = [] from h); exact rfl
  | _ :: _, _, 0, h => by obtain ⟨w, r, rfl, _, z⟩ := h; exact ⟨v, r, rfl, q, z⟩
  | _ :: _, _, m + 1, h => by obtain ⟨w, r, rfl, y, z⟩ := h; exact ⟨w, r.set m v, rfl, y, Rs.setd q m z⟩
theorem putS_some {st st3 : Sst} {k v : D} (h : putS st k v = some st3) : ∃ s kk vv, st = some s ∧ k = .int kk ∧ v = .int vv ∧ ((kk = 1 ∧ st3 = some { s with a := vv }) ∨ (kk = 2 ∧ st3 = some { s with b := vv }) ∨ (kk = 3 ∧ st3 = some { s with c := vv })) := by
  cases st with
  | none => cases h
  | some s =>
    cases k with
    | int kk =>
      cases v with
      | int vv =>
        refine ⟨s, kk, vv, rfl, rfl, rfl, ?_⟩
        change (if kk = 1 then some (some { s with a := vv }) else if kk = 2 then some (some { s with b := vv }) else if kk = 3 then some (some { s with c := vv }) else none) = some st3 at h
        split at h
        · cases h; exact .inl ⟨by assumption, rfl⟩
        · split at h
          · cases h; exact .inr (.inl ⟨by assumption, rfl⟩)
          · split at h
            · cases h; exact .inr (.inr ⟨by assumption, rfl⟩)
            · cases h
      | _ => cases h
    | _ => cases h
theorem s_put (hu : X.A.units + 200 < cLine) {x : Str} {i : Nat} {a b : Expr} {ia ib : Ir} {px ps pos : Pos} {N : List Str} (hN : X.N = N) (hi : ix N x = some i) (hv : visB X.env.scope x = true) (hx : okN x = true) (ha : EOk C cf X a ia) (hb : EOk C cf X b ib) (hs : nst b = true) :
    SOk C cf X (.Assign [.Subscript (.Name x px) b ps] a pos) (.put i ib ia) := by
  intro S θ F H ow st σ env fl env1 st1 D fi ev k
  unfold exS at ev
  obtain ⟨F1, ow1, fi1, x1⟩ := fi.frzn (us ia ++ us ib)
  generalize frz (us ia ++ us ib) env = env2 at ev fi1
  cases e1 : evI cf env2 ia st with
  | none => rw [e1] at ev; cases ev
  | some p =>
    obtain ⟨v, s1⟩ := p
    rw [e1] at ev
    simp only at ev
    cases e2 : evI cf env2 ib s1 with
    | none => rw [e2] at ev; cases ev
    | some p =>
      obtain ⟨kd, s2⟩ := p
      rw [e2] at ev
      simp only at ev
      refine ss (ps_asg pe_sem (pg_sub (n_var hN hi hv hx) pe_sem (set_ld hu) (by intro v; cases b <;> first | rfl | cases hs)) (by cases a <;> rfl) (by rfl) (by rfl)) ?_
      refine ha θ F1 H ow1 st σ env2 v s1 _ fi1.o fi1.e e1 fun w θ2 F2 H2 ow2 t2 o2 r2 => ?_
      have fi2 := fi1.ext t2 o2
      cases e3 : getD' env2 i with
      | some kvs =>
        rw [e3] at ev
        simp only at ev
        split at ev
        · rename_i hf
          cases ev
          simp only [Bool.and_eq_true] at hf
          obtain ⟨l, ks, eσ, hO, hH, rr, hlen⟩ := getD_at fi2 e3
          refine ⟨.ref l, eσ, ?_⟩
          refine hb θ2 F2 H2 ow2 s1 σ env2 kd _ _ o2 fi2.e e2 fun y θ3 F3 H3 ow3 t3 o3 r3 => ?_
          obtain ⟨key, ek⟩ := keysK_key hf.1
          have ey := key_kV ek r3
          subst ey
          have hH3 := t3.ex l _ hH (slot_ne hO)
          have hO3 := (t3.oo l _ hH).trans hO
          have fi3 := (fi2.ext t3 o3).chg (o := .dK (putK ks key w)) (t := .od (dPut kvs kd v)) hO3 hlen eσ ⟨l, _, rfl, hO3, upd_same, RK.put ek (R.mono t3.leF t3.th _ _ r2) (RK.mono t3.leF t3.th _ _ rr)⟩
          refine .inr ⟨l, _, rfl, DPut.k hH3 ?_, k σ θ3 F3 _ ow3 fi3 ((x1.trans t2.sx).trans t3.sx)⟩
          have := fits_ok hf.2
          have := RK.length rr
          omega
        · cases ev
      | none =>
        rw [e3] at ev
        simp only at ev
        cases e4 : getL env2 i with
        | none =>
          rw [e4] at ev
          simp only at ev
          split at ev
          · rename_i htk
            split at ev
            · rename_i st3 ep
              cases ev
              obtain ⟨p, eσ, hp⟩ := tok_at fi2.e htk
              refine ⟨.ref p, eσ, ?_⟩
              refine hb θ2 F2 H2 ow2 s1 σ _ kd _ _ o2 fi2.e e2 fun y θ3 F3 H3 ow3 t3 o3 r3 => ?_
              obtain ⟨s8, kk, vv, rfl, rfl, rfl, hz⟩ := putS_some ep
              cases (show y = V.int kk from r3)
              cases (show w = V.int vv from r2)
              obtain ⟨q, l, q1, q2, q3, q4, q5, q6⟩ := o3.str
              have hp3 := t3.th 0 p hp
              rw [hp3] at q1
              cases q1
              have fin : ∀ (s9 : S8) (m : Nat), s9.cells = s8.cells → ixN 4 kk = some m → ([.ref l, .int s8.a, .int s8.b, .int s8.c] : List V).set m (.int vv) = [.ref l, .int s9.a, .int s9.b, .int s9.c] → st1 = some s9 → rSetLD (.ref p) (.int kk) (.int vv) H3 fun H4 => D.nx σ H4 := by
                intro s9 m hc hm hset hst
                subst hst
                obtain ⟨o4, t4⟩ := strm_put (s9 := s9) o3 hp3 q2 q4 q5 q6 hc
                refine .inl ⟨p, _, kk, m, rfl, rfl, q3, hm, ?_⟩
                rw [hset]
                exact k σ θ3 F3 _ ow3 ((fi2.ext t3 o3).ext t4 o4) (((x1.trans t2.sx).trans t3.sx).trans t4.sx)
              rcases hz with ⟨rfl, e⟩ | ⟨rfl, e⟩ | ⟨rfl, e⟩
              · exact fin { s8 with a := vv } 1 rfl rfl rfl e
              · exact fin { s8 with b := vv } 2 rfl rfl rfl e
              · exact fin { s8 with c := vv } 3 rfl rfl rfl e
            · cases ev
          · cases ev
        | some ds =>
          rw [e4] at ev
          simp only at ev
          cases kd with
          | int j =>
            change (match ixN ds.length j with
              | some m => some (Fl.nx, env2.set i (some (.ol (ds.set m v))), s2)
              | none => none) = some (fl, env1, st1) at ev
            cases e5 : ixN ds.length j with
            | none => rw [e5] at ev; cases ev
            | some m =>
              rw [e5] at ev
              cases ev
              obtain ⟨l, vs, eσ, hO, hH, rr, hlen⟩ := getL_at fi2 e4
              refine ⟨.ref l, eσ, ?_⟩
              refine hb θ2 F2 H2 ow2 s1 σ env2 _ _ _ o2 fi2.e e2 fun y θ3 F3 H3 ow3 t3 o3 r3 => ?_
              cases (show y = V.int j from r3)
              have hH3 := t3.ex l _ hH (slot_ne hO)
              have hO3 := (t3.oo l _ hH).trans hO
              have fi3 := (fi2.ext t3 o3).chg (o := .lst (vs.set m w)) (t := .ol (ds.set m v)) hO3 hlen eσ ⟨l, _, rfl, hO3, upd_same, Rs.setd (R.mono t3.leF t3.th _ _ r2) m (Rs.mono t3.leF t3.th _ _ rr)⟩
              exact .inl ⟨l, vs, j, m, rfl, rfl, hH3, by rw [rr.length]; exact e5, k σ θ3 F3 _ ow3 fi3 ((x1.trans t2.sx).trans t3.sx)⟩
          | _ => cases ev
end
end Ev
/-! EvY3 -/
namespace Ev
open PySem PySem.Spec PyProof.Rows L2
section
variable {C : Ctx} {cf : CallF} {X : Cx}
theorem evI_of_top {env : Env} {i : Ir} {st st1 : Sst} {t : T} (h : evTop cf env i st = some (t, st1)) : evI cf env i st = some (t.er, st1) := by
  cases hc : callB i with
  | false =>
    rw [evTop_not hc] at h
    cases e1 : evI cf env i st with
    | none => rw [e1] at h; cases h
    | some p =>
      obtain ⟨d, s1⟩ := p
      rw [e1] at h
      cases h
      rw [ownT_er]
  | true =>
    cases i with
    | call g as ord =>
      obtain ⟨ds, s1, ps, e1, e2, e3⟩ := callTop_inv h
      unfold evI
      rw [e1]
      simp only
      rw [e2]
      simp only
      rw [e3]
    | _ => cases hc
theorem frz_len {is : List Nat} {env : Env} : (frz is env).length = env.length := by unfold frz; rw [List.length_mapIdx]
/-! ### name = e, (a, b) = e -/
theorem s_set {y : Str} {j : Nat} {e : Expr} {i : Ir} {py pos : Pos} (ha : SetOk C cf X e i) (nd : X.N.Nodup) (hj : X.N[j]? = some y) (hl : Loc X.env.scope y) (hf : X.fn y = true) : SOk C cf X (.Assign [.Name y py] e pos) (.set (.n j) i) := by
  intro S θ F H ow st σ env fl env1 st1 D fi ev k
  unfold exS at ev
  cases e1 : evTop cf (frz (us i) env) i st with
  | none => rw [e1] at ev; cases ev
  | some p =>
    obtain ⟨t, s1⟩ := p
    rw [e1] at ev
    simp only at ev
    split at ev
    · rename_i hlt
      cases ev
      obtain ⟨F1, ow1, fi1, x1⟩ := fi.frzn (us i)
      refine ha y j py pos nd hj hl (.inl hf) θ F1 H ow1 st σ _ t _ D fi1.o fi1.e e1 fun v θ2 F2 H2 ow2 t2 o2 r2 => ?_
      obtain ⟨ow3, fi3, _⟩ := (fi1.ext t2 o2).give (fun a h => fi1.s.none fi1.o a h) r2 (by rw [frz_len]; exact hlt)
      exact k _ θ2 F2 H2 ow3 fi3 (x1.trans t2.sx)
    · cases ev
theorem sole_tup {e : Expr} {es : List Expr} {kk : Nat} {p : Pos} {l : Nat} {env : PySem.Env} : swapsWithSole [.Tuple es kk p] e l env = pure false := by cases e <;> rfl
theorem s_setT (hK : X.K = C.K) {es : List Expr} {kk : Nat} {pt pos : Pos} {ts : List Tg} {e : Expr} {i : Ir} (ha : EOk C cf X e i) (hg : PG X (.Tuple es kk pt) (gTg X.K (.t ts))) (ht : isTup e = false) : SOk C cf X (.Assign [.Tuple es kk pt] e pos) (.set (.t ts) i) := by
  intro S θ F H ow st σ env fl env1 st1 D fi ev k
  unfold exS at ev
  cases e1 : evTop cf (frz (us i) env) i st with
  | none => rw [e1] at ev; cases ev
  | some p =>
    obtain ⟨t, s1⟩ := p
    rw [e1] at ev
    simp only at ev
    cases e2 : bindT (.t ts) t.er (frz (us i) env) with
    | none => rw [e2] at ev; cases ev
    | some env2 =>
      rw [e2] at ev
      cases ev
      obtain ⟨F1, ow1, fi1, x1⟩ := fi.frzn (us i)
      refine ss (ps_asg pe_sem hg sole_tup (by cases e <;> first | rfl | cases ht) (by rfl)) ?_
      refine ha θ F1 H ow1 st σ _ _ _ _ fi1.o fi1.e (evI_of_top e1) fun v θ2 F2 H2 ow2 t2 o2 r2 => ?_
      have fi2 := fi1.ext t2 o2
      exact bind_ok hK o2.le (.t ts) e2 r2 fi2.e fun σ1 en1 _ => k σ1 θ2 F2 H2 ow2 ⟨fi2.s, fi2.o, en1, fi2.n⟩ (x1.trans t2.sx)
/-! ### pops -/
theorem pe_pop0 {x : Str} {i : Nat} {px ap cp : Pos} {N : List Str} (hN : X.N = N) (hi : ix N x = some i) (hv : visB X.env.scope x = true) (ho : okN x = true) (hl : (ap.endLine == cp.line) = true) : PE X (.Call (.Attribute (.Name x px) "pop" ap) [] [] cp) (tBM0 X.K "list" rPop (tVar i)) :=
  pe_bm0 PySem.F.plainAttrs_list PySem.F.slot_list_pop PySem.F.type_list_pop mt_pop (n_var hN hi hv ho) (att_base rfl _ _) hl
theorem drop_last_rs {θ : Toks} {F : Hp} {ds : List D} {vs : List V} (r : Rs C θ F ds vs) : Rs C θ F ds.dropLast vs.dropLast := by
  rw [List.dropLast_eq_take, List.dropLast_eq_take, r.length]
  exact r.take _
theorem Rs.erase {θ : Toks} {F : Hp} : ∀ {ds : List D} {vs : List V} (m : Nat), Rs C θ F ds vs → Rs C θ F (ds.eraseIdx m) (vs.eraseIdx m)
  | [], _, m, h => by cases (show _ = [] from h); exact rfl
  | _ :: _, _, 0, h => by obtain ⟨w, r, rfl, _, z⟩ := h; exact z
  | _ :: _, _, m + 1, h => by obtain ⟨w, r, rfl, y, z⟩ := h; exact ⟨w, r.eraseIdx m, rfl, y, Rs.erase m z⟩
theorem s_pop {x y : Str} {i j : Nat} {px py ap cp pos : Pos} {N : List Str} (hN : X.N = N) (hi : ix N x = some i) (hv : visB X.env.scope x = true) (ho : okN x = true) (hl : (ap.endLine == cp.line) = true) (nd : X.N.Nodup) (hj : X.N[j]? = some y) (hly : Loc X.env.scope y) (hf : X.fn y = true) :
    SOk C cf X (.Assign [.Name y py] (.Call (.Attribute (.Name x px) "pop" ap) [] [] cp) pos) (.pop j i) := by
  intro S θ F H ow st σ env fl env1 st1 D fi ev k
  unfold exS at ev
  cases e1 : getL env i with
  | none => rw [e1] at ev; cases ev
  | some ds =>
    rw [e1] at ev
    simp only at ev
    cases e2 : ds.getLast? with
    | none => rw [e2] at ev; cases ev
    | some d =>
      rw [e2] at ev
      simp only at ev
      split at ev
      · rename_i hlt
        cases ev
        obtain ⟨l, vs, eσ, hO, hH, rr, hlen⟩ := getL_at fi e1
        have e3 : ds[ds.length - 1]? = some d := by rw [← List.getLast?_eq_getElem?]; exact e2
        obtain ⟨w, ew, rw'⟩ := rr.get e3
        refine ss (ps_set nd hj hly (pe_pop0 hN hi hv ho hl) rfl (.inl hf)) ?_
        have fi2 := fi.chg (o := .lst vs.dropLast) (t := .ol ds.dropLast) hO hlen eσ ⟨l, _, rfl, hO, upd_same, drop_last_rs rr⟩
        refine ⟨.ref l, eσ, .inl ⟨rfl, vs, SqL.of hH⟩, l, vs, w, rfl, rfl, hH, by rw [rr.length]; exact ew, ?_⟩
        exact k _ θ F _ ow ⟨fi2.s, fi2.o, fi2.e.set (by rw [List.length_set]; exact hlt) (show OwnT C θ F _ ow (.slot j) (.fz d) w from rw'), fi2.n⟩ Sx.refl
      · cases ev
theorem ixN_b {n : Nat} {i : Int} {m : Nat} (h : ixN n i = some m) (hz : n ≤ sizeLine) : seqIndex? i n = some m ∧ -(2 ^ 63) ≤ i ∧ i < 2 ^ 63 := by
  obtain ⟨h1, h2, h3, h4⟩ := ixN_seq h
  have hn := line63
  exact ⟨h1, by omega, by omega⟩
theorem s_popAt {x y : Str} {i j : Nat} {a : Expr} {ia : Ir} {px py ap cp pos : Pos} {N : List Str} (hN : X.N = N) (hi : ix N x = some i) (hv : visB X.env.scope x = true) (ho : okN x = true) (hl : (ap.endLine == cp.line) = true) (nd : X.N.Nodup) (hj : X.N[j]? = some y) (hly : Loc X.env.scope y) (hf : X.fn y = true)
    (ha : EOk C cf X a ia) (hs : nst a = true) : SOk C cf X (.Assign [.Name y py] (.Call (.Attribute (.Name x px) "pop" ap) [a] [] cp) pos) (.popAt j i ia) := by
  intro S θ F H ow st σ env fl env1 st1 D fi ev k
  unfold exS at ev
  cases e0 : evI cf (frz (us ia) env) ia st with
  | none => rw [e0] at ev; cases ev
  | some p =>
    obtain ⟨kd, s1⟩ := p
    rw [e0] at ev
    simp only at ev
    cases e1 : getL (frz (us ia) env) i with
    | none => rw [e1] at ev; cases ev
    | some ds =>
      rw [e1] at ev
      simp only at ev
      cases kd with
      | int q =>
        change (match ixN ds.length q with
          | some m => match ds[m]? with
            | some d => if (decide (j < env.length) && fits ds.length) = true then some (Fl.nx, ((frz (us ia) env).set i (some (.ol (ds.eraseIdx m)))).set j (some (.fz d)), s1) else none
            | none => none
          | none => none) = some (fl, env1, st1) at ev
        cases e2 : ixN ds.length q with
        | none => rw [e2] at ev; cases ev
        | some m =>
          rw [e2] at ev
          simp only at ev
          cases e3 : ds[m]? with
          | none => rw [e3] at ev; cases ev
          | some d =>
            rw [e3] at ev
            simp only at ev
            split at ev
            · rename_i hc
              cases ev
              have hc := Bool.and_eq_true_iff.mp hc
              have hlt : j < env.length := of_decide_eq_true hc.1
              obtain ⟨F1, ow1, fi1, x1⟩ := fi.frzn (us ia)
              obtain ⟨l, vs, eσ, hO, hH, rr, hlen⟩ := getL_at fi1 e1
              refine ss (ps_set nd hj hly (pe_meth1 PySem.F.plainAttrs_list PySem.F.slot_list_pop PySem.F.type_list_pop mt_popAt hN hi hv ho hs hl) rfl (.inl hf)) ?_
              refine ⟨.ref l, eσ, .inl ⟨rfl, vs, SqL.of hH⟩, ?_⟩
              refine ha θ F1 H ow1 st σ _ _ _ _ fi1.o fi1.e e0 fun w θ2 F2 H2 ow2 t2 o2 r2 => ?_
              cases (show w = V.int q from r2)
              have hH2 := t2.ex l _ hH (slot_ne hO)
              have hO2 := (t2.oo l _ hH).trans hO
              have rr2 := Rs.mono t2.leF t2.th _ _ rr
              obtain ⟨w, ew, rw'⟩ := rr2.get e3
              have fi2 := (fi1.ext t2 o2).chg (o := .lst (vs.eraseIdx m)) (t := .ol (ds.eraseIdx m)) hO2 hlen eσ ⟨l, _, rfl, hO2, upd_same, rr2.erase m⟩
              obtain ⟨b1, b2, b3⟩ := ixN_b e2 (fits_ok hc.2)
              refine ⟨l, vs, q, m, w, rfl, rfl, hH2, b2, b3, by rw [rr.length]; exact b1, ew, ?_⟩
              exact k _ θ2 F2 _ ow2 ⟨fi2.s, fi2.o, fi2.e.set (by rw [List.length_set, frz_len]; exact hlt) (show OwnT C θ2 F2 _ ow2 (.slot j) (.fz d) w from rw'), fi2.n⟩ (x1.trans t2.sx)
            · cases ev
      | _ => cases ev
theorem s_appPop {x y : Str} {i j : Nat} {a : Expr} {ia : Ir} {px py ap cp ap2 cp2 pos : Pos} {N : List Str} (hN : X.N = N) (hi : ix N x = some i) (hv : visB X.env.scope x = true) (ho : okN x = true) (hl : (ap.endLine == cp.line) = true)
    (hj : ix N y = some j) (hvy : visB X.env.scope y = true) (hoy : okN y = true) (hl2 : (ap2.endLine == cp2.line) = true) (ha : EOk C cf X a ia) (hs : nst a = true) :
    SOk C cf X (.Expr (.Call (.Attribute (.Name y py) "append" ap2) [.Call (.Attribute (.Name x px) "pop" ap) [a] [] cp] [] cp2) pos) (.appPop j i ia) := by
  intro S θ F H ow st σ env fl env1 st1 D fi ev k
  unfold exS at ev
  cases e0 : evI cf (frz (us ia) env) ia st with
  | none => rw [e0] at ev; cases ev
  | some p =>
    obtain ⟨kd, s1⟩ := p
    rw [e0] at ev
    simp only at ev
    split at ev
    · cases ev
    · rename_i hne
      cases e1 : getL (frz (us ia) env) i with
      | none => rw [e1] at ev; cases ev
      | some ds =>
        rw [e1] at ev
        simp only at ev
        cases kd with
        | int q =>
          change (match ixN ds.length q with
            | some m => match ds[m]? with
              | some d => match getL (frz (us ia) env) j with
                | some es => if (fits (es.length + 1) && fits ds.length) = true then some (Fl.nx, ((frz (us ia) env).set i (some (.ol (ds.eraseIdx m)))).set j (some (.ol (es ++ [d]))), s1) else none
                | none => none
              | none => none
            | none => none) = some (fl, env1, st1) at ev
          cases e2 : ixN ds.length q with
          | none => rw [e2] at ev; cases ev
          | some m =>
            rw [e2] at ev
            simp only at ev
            cases e3 : ds[m]? with
            | none => rw [e3] at ev; cases ev
            | some d =>
              rw [e3] at ev
              simp only at ev
              cases e4 : getL (frz (us ia) env) j with
              | none => rw [e4] at ev; cases ev
              | some es =>
                rw [e4] at ev
                simp only at ev
                split at ev
                · rename_i hc
                  cases ev
                  have hc := Bool.and_eq_true_iff.mp hc
                  obtain ⟨F1, ow1, fi1, x1⟩ := fi.frzn (us ia)
                  obtain ⟨l, vs, eσ, hO, hH, rr, hlen⟩ := getL_at fi1 e1
                  obtain ⟨l2, vs2, eσ2, hO2, hH2, rr2, hlen2⟩ := getL_at fi1 e4
                  have nll : l2 ≠ l := fun z => by
                    rw [z, hO] at hO2
                    cases hO2
                    exact hne rfl
                  have inner := pe_meth1 (X := X) (px := px) PySem.F.plainAttrs_list PySem.F.slot_list_pop PySem.F.type_list_pop mt_popAt hN hi hv ho hs hl
                  refine ss (ps_expr (pe_bm PySem.F.plainAttrs_list PySem.F.slot_list_append PySem.F.type_list_append mt_append (n_var hN hj hvy hoy) (pa_cons inner pa_nil rfl) (att_base rfl _ _) (few1 rfl cp2 X.env) hl2 rfl rfl)) ?_
                  refine ⟨.ref l2, eσ2, .inl ⟨rfl, vs2, SqL.of hH2⟩, ?_⟩
                  refine ⟨.ref l, eσ, .inl ⟨rfl, vs, SqL.of hH⟩, ?_⟩
                  refine ha θ F1 H ow1 st σ _ _ _ _ fi1.o fi1.e e0 fun w θ2 F2 H2 ow2 t2 o2 r2 => ?_
                  cases (show w = V.int q from r2)
                  have gH := t2.ex l _ hH (slot_ne hO)
                  have gO := (t2.oo l _ hH).trans hO
                  have gH2 := t2.ex l2 _ hH2 (slot_ne hO2)
                  have gO2 := (t2.oo l2 _ hH2).trans hO2
                  have gr := Rs.mono t2.leF t2.th _ _ rr
                  have gr2 := Rs.mono t2.leF t2.th _ _ rr2
                  obtain ⟨w, ew, rw'⟩ := gr.get e3
                  have fi2 := (fi1.ext t2 o2).chg (o := .lst (vs.eraseIdx m)) (t := .ol (ds.eraseIdx m)) gO hlen eσ ⟨l, _, rfl, gO, upd_same, gr.erase m⟩
                  have kH2 : upd H2 l (.lst (vs.eraseIdx m)) l2 = some (.lst vs2) := by rw [upd_ne nll]; exact gH2
                  have fi3 := fi2.chg (o := .lst (vs2 ++ [w])) (t := .ol (es ++ [d])) gO2 (by rw [List.length_set]; exact hlen2) eσ2 ⟨l2, _, rfl, gO2, upd_same, gr2.app ⟨w, [], rfl, rw', rfl⟩⟩
                  obtain ⟨b1, b2, b3⟩ := ixN_b e2 (fits_ok hc.2)
                  refine ⟨l, vs, q, m, w, rfl, rfl, gH, b2, b3, by rw [rr.length]; exact b1, ew, ?_⟩
                  refine ⟨l2, vs2, w, rfl, rfl, kH2, ?_, k _ θ2 F2 _ ow2 fi3 (x1.trans t2.sx)⟩
                  have := fits_ok hc.1
                  have := rr2.length
                  omega
                · cases ev
        | _ => cases ev
/-! ### expressions, tests, ends -/
theorem s_ex {e : Expr} {i : Ir} {pos : Pos} (ha : TOk C cf X e i) (hc : isCompB e = false) : SOk C cf X (.Expr e pos) (.ex i) := by
  intro S θ F H ow st σ env fl env1 st1 D fi ev k
  unfold exS at ev
  split at ev
  · rename_i t s1 e1
    cases ev
    obtain ⟨F1, ow1, fi1, x1⟩ := fi.frzn (us i)
    refine ss (ps_expr pe_sem (sw_no hc _ _ _)) ?_
    exact ha θ F1 H ow1 st σ _ t _ _ fi1.o fi1.e e1 fun v θ2 F2 H2 ow2 t2 o2 r2 => k σ θ2 F2 H2 ow2 (fi1.ext t2 o2) (x1.trans t2.sx)
  · cases ev
theorem s_if {c : Expr} {a b : List Stmt} {ic : Ir} {ia ib : List Is} {pos : Pos} (hc : COk C cf X c ic) (ha : SBOk C cf X a ia) (hb : SBOk C cf X b ib) : SOk C cf X (.If c a b pos) (.iff ic ia ib) := by
  intro S θ F H ow st σ env fl env1 st1 D fi ev k
  unfold exS at ev
  obtain ⟨F1, ow1, fi1, x1⟩ := fi.frzn (us ic)
  refine ss (ps_if pt_sem pss_sem pss_sem) ?_
  split at ev
  · rename_i s1 e1
    refine hc θ F1 H ow1 st σ _ true _ _ fi1.o fi1.e e1 fun θ2 F2 H2 ow2 t2 o2 => ?_
    exact ha S θ2 F2 H2 ow2 _ σ _ fl env1 st1 D (fi1.ext t2 o2) ev (k.sx (x1.trans t2.sx))
  · rename_i s1 e1
    refine hc θ F1 H ow1 st σ _ false _ _ fi1.o fi1.e e1 fun θ2 F2 H2 ow2 t2 o2 => ?_
    exact hb S θ2 F2 H2 ow2 _ σ _ fl env1 st1 D (fi1.ext t2 o2) ev (k.sx (x1.trans t2.sx))
  · cases ev
theorem s_ret {e : Expr} {i : Ir} {pos : Pos} (ha : TOk C cf X e i) (hv : ∀ j, i = .v j → PE X e (tVar j)) : SOk C cf X (.Return (some e) pos) (.ret i) := by
  intro S θ F H ow st σ env fl env1 st1 D fi ev k
  refine ss (ps_ret pe_sem) ?_
  have gen : (match evTop cf (frz (us i) env) i st with
      | some (t, st1) => some (Fl.rt t, frz (us i) env, st1)
      | none => none) = some (fl, env1, st1) → SemE X e σ H D.rt := by
    intro ev
    split at ev
    · rename_i t s1 e1
      cases ev
      obtain ⟨F1, ow1, fi1, x1⟩ := fi.frzn (us i)
      refine ha θ F1 H ow1 st σ _ t _ _ fi1.o fi1.e e1 fun v θ2 F2 H2 ow2 t2 o2 r2 => ?_
      exact k v θ2 F2 H2 ow2 (fi1.s.trans fi1.o t2) o2 (r2.back (fi1.s.none fi1.o))
    · cases ev
  unfold exS at ev
  cases i with
  | v j =>
    simp only at ev
    split at ev
    · rename_i t e1
      cases ev
      obtain ⟨v, ow', e2, s2, o2, r2⟩ := fi.out e1
      exact se (hv j rfl) ⟨v, e2, k v θ F H ow' s2 o2 r2⟩
    · cases ev
  | _ => exact gen ev
theorem s_retN {pos : Pos} : SOk C cf X (.Return none pos) .retN := by
  intro S θ F H ow st σ env fl env1 st1 D fi ev k
  cases (show some (Fl.rt (.fz .non), env, st) = some (fl, env1, st1) from ev)
  exact ss ps_retN (k .non θ F H ow fi.s fi.o rfl)
theorem s_brk {pos : Pos} : SOk C cf X (.Break pos) .brk := by
  intro S θ F H ow st σ env fl env1 st1 D fi ev k
  cases (show some (Fl.bk, env, st) = some (fl, env1, st1) from ev)
  exact ss ps_break (k σ θ F H ow fi Sx.refl)
theorem s_cont {pos : Pos} : SOk C cf X (.Continue pos) .cont := by
  intro S θ F H ow st σ env fl env1 st1 D fi ev k
  cases (show some (Fl.ct, env, st) = some (fl, env1, st1) from ev)
  exact ss ps_continue (k σ θ F H ow fi Sx.refl)
theorem s_pass {pos : Pos} : SOk C cf X (.Pass pos) .pass := by
  intro S θ F H ow st σ env fl env1 st1 D fi ev k
  cases (show some (Fl.nx, env, st) = some (fl, env1, st1) from ev)
  exact ss ps_pass (k σ θ F H ow fi Sx.refl)
theorem s_dead {s : Stmt} : SOk C cf X s .dead := by
  intro S θ F H ow st σ env fl env1 st1 D fi ev k
  cases (show none = some (fl, env1, st1) from ev)
/-! ### blocks -/
theorem b_of : ∀ {ss' : List Stmt} {is : List Is}, Paired (SOk C cf X) ss' is → SBOk C cf X ss' is
  | _, _, .nil => by
    intro S θ F H ow st σ env fl env1 st1 D fi ev k
    cases (show some (Fl.nx, env, st) = some (fl, env1, st1) from ev)
    exact sb pss_nil (k σ θ F H ow fi Sx.refl)
  | _, _, .cons (a := s) (b := i) (l₁ := sr) (l₂ := ir) q r => by
    intro S θ F H ow st σ env fl env1 st1 D fi ev k
    have ih := b_of r
    refine sb (pss_cons ps_sem pss_sem) ?_
    show SemS X s { D with nx := SemB X sr D } σ H
    unfold exB at ev
    cases e1 : exS cf i env st with
    | none => rw [e1] at ev; cases ev
    | some p =>
      obtain ⟨f1, env2, s2⟩ := p
      rw [e1] at ev
      cases f1 with
      | nx =>
        simp only at ev
        refine q S θ F H ow st σ env .nx env2 s2 _ fi e1 fun σ2 θ2 F2 H2 ow2 fi2 x2 => ?_
        exact ih S θ2 F2 H2 ow2 s2 σ2 env2 fl env1 st1 D fi2 ev (k.sx x2)
      | rt t => cases ev; exact q S θ F H ow st σ env _ _ _ _ fi e1 k
      | bk => cases ev; exact q S θ F H ow st σ env _ _ _ _ fi e1 k
      | ct => cases ev; exact q S θ F H ow st σ env _ _ _ _ fi e1 k
end
end Ev
/-! EvY4 -/
namespace Ev
open PySem PySem.Spec PyProof.Rows L2
section
variable {C : Ctx} {cf : CallF} {X : Cx}
/-! ### for -/
theorem forGo_cons {bd : D → Env → Option Env} {body : Env → Sst → Option (Fl × Env × Sst)} {x : D} {xs : List D} {env : Env} {st : Sst} {r : Fl × Env × Sst} (h : forGo bd body (x :: xs) env st = some r) :
    ∃ env1, bd x env = some env1 ∧ ∃ f env2 st2, body env1 st = some (f, env2, st2) ∧ (match f with
      | .nx => forGo bd body xs env2 st2 = some r
      | .ct => forGo bd body xs env2 st2 = some r
      | .bk => r = (.nx, env2, st2)
      | .rt t => r = (.rt t, env2, st2)) := by
  unfold forGo at h
  cases e1 : bd x env with
  | none => rw [e1] at h; cases h
  | some env1 =>
    rw [e1] at h
    simp only at h
    refine ⟨env1, rfl, ?_⟩
    cases e2 : body env1 st with
    | none => rw [e2] at h; cases h
    | some p =>
      obtain ⟨f, env2, st2⟩ := p
      rw [e2] at h
      refine ⟨f, env2, st2, rfl, ?_⟩
      cases f with
      | nx => exact h
      | ct => exact h
      | bk => cases h; rfl
      | rt t => cases h; rfl
theorem rbs_of {θ : Toks} {F G : Hp} (l : Le F G) : ∀ {ds : List D} {vs : List V}, Rs C θ F ds vs → RBs C θ F G ds vs
  | [], _, h => h
  | d :: ds, vs, h => by
    obtain ⟨v, r, rfl, q, z⟩ := h
    exact ⟨v, r, rfl, RB.of l q, rbs_of l z⟩
theorem s_for (hK : X.K = C.K) (hc : X.calm = true) (hp : PassesOwn (model X.prog X.w) X.A X.env X.xe) {tg it : Expr} {body : List Stmt} {t : Tg} {im : Im} {es : List Expr} {is : List Ir} {ib : List Is} {pos : Pos}
    (hg : PG X tg (gTg X.K t)) (hit : IRun C X tg it im es)
    (hes : ∀ θ F H ow st σ env ds st1 Q, Hok θ F H ow st → EnvOk C θ F H ow σ env → evL cf env is st = some (ds, st1) → (∀ vs θ' F' H' ow', Stp θ F H ow θ' F' H' ow' → Hok θ' F' H' ow' st1 → Rs C θ' F' ds vs → Q vs H') → SemL X im es σ H Q)
    (hb : SBOk C cf X body ib) (hfs : ∀ x, foldedSetIterable it X.env x = pure x) : SOk C cf X (.For tg it body [] pos) (.for t im is ib) := by
  intro S θ F H ow st σ env fl env1 st1 D fi ev k
  obtain ⟨F1, ow1, fi1, x1⟩ := fi.frzn (usL is)
  unfold exS at ev
  generalize frz (usL is) env = env2 at ev fi1
  cases e1 : evL cf env2 is st with
  | none => rw [e1] at ev; cases ev
  | some p =>
    obtain ⟨ds, s1⟩ := p
    rw [e1] at ev
    simp only at ev
    cases e2 : itD im ds with
    | none => rw [e2] at ev; cases ev
    | some xs =>
      rw [e2] at ev
      simp only at ev
      refine ss (ps_for hp hc (pi_sem (tg := tg)) hg pss_sem hfs) ?_
      refine hit σ H _ ?_
      refine hes θ F1 H ow1 st σ env2 ds s1 _ fi1.o fi1.e e1 fun vs θ2 F2 H2 ow2 t2 o2 r2 => ?_
      refine ⟨θ2, F2, ow2, s1, ds, xs, o2, rbs_of o2.leN r2, e2, fun J hJ => ?_⟩
      let W : Nat → Nat → L2.St → Hp → Prop := fun i m σ H => m + i = xs.length ∧ ∃ θ3 F3 ow3 s3 env3, FI C S θ3 F3 H ow3 s3 σ env3 ∧ Sx θ2 F2 θ3 F3 ∧ forGo (fun d env => bindT t d env) (fun env st => exB cf ib env st) (xs.drop i) env3 s3 = some (fl, env1, st1)
      refine ⟨W, ⟨xs.length, rfl, θ2, F2, ow2, s1, env2, fi1.ext t2 o2, Sx.refl, ev⟩, ?_⟩
      rintro i m σ3 H3 ⟨hm, θ3, F3, ow3, s3, env3, fi3, x3, eg⟩
      have V := hJ θ3 F3 H3 ow3 s3 fi3.o (rbs_of fi3.o.leN (Rs.mono x3.le x3.1 _ _ r2)) i
      have xk : Sx θ F θ3 F3 := (x1.trans t2.sx).trans x3
      cases m with
      | zero =>
        have hi : xs.length = i := by omega
        refine .inl ⟨V.1 hi, ?_⟩
        rw [List.drop_eq_nil_of_le (Nat.le_of_eq hi)] at eg
        cases (show some (Fl.nx, env3, s3) = some (fl, env1, st1) from eg)
        exact k σ3 θ3 F3 H3 ow3 fi3 xk
      | succ m =>
        have hi : i < xs.length := by omega
        have hx : xs[i]? = some xs[i] := List.getElem?_eq_getElem hi
        obtain ⟨hgo, hy⟩ := V.2 _ hx
        rw [List.drop_eq_getElem_cons hi] at eg
        obtain ⟨env4, eb, f, env5, s5, ebody, hf⟩ := forGo_cons eg
        refine .inr ⟨hgo, fun σ' H' => W (i + 1) m σ' H', fun σ' H' h => ⟨m, Nat.lt_succ_self _, h⟩, fun x H4 hyl => ?_⟩
        obtain ⟨F4, t4, o4, r4⟩ := hy x H4 hyl
        have fi4 := fi3.ext t4 o4
        refine bind_ok hK o4.le t eb r4 fi4.e fun σ5 en5 _ => ?_
        have fi5 : FI C S θ3 F4 H4 ow3 s3 σ5 env4 := ⟨fi4.s, fi4.o, en5, fi4.n⟩
        show SemB X body _ σ5 H4
        refine hb S θ3 F4 H4 ow3 s3 σ5 env4 f env5 s5 _ fi5 ebody ?_
        cases f with
        | nx => exact fun σ' θ' F' H' ow' fi' x' => ⟨by omega, θ', F', ow', s5, env5, fi', (x3.trans t4.sx).trans x', hf⟩
        | ct => exact fun σ' θ' F' H' ow' fi' x' => ⟨by omega, θ', F', ow', s5, env5, fi', (x3.trans t4.sx).trans x', hf⟩
        | bk =>
          cases hf
          exact fun σ' θ' F' H' ow' fi' x' => k σ' θ' F' H' ow' fi' ((xk.trans t4.sx).trans x')
        | rt t' =>
          cases hf
          exact k
/-! ### while -/
theorem whlD_some {c : Env → Sst → Option (D × Sst)} {body : Env → Sst → Option (Fl × Env × Sst)} {env : Env} {st : Sst} {r : Fl × Env × Sst} (h : whlD c body env st = some r) : ∃ n, whlN c body n env st = some r := by
  unfold whlD at h
  split at h
  · rename_i hx
    have e := hx.choose_spec.choose_spec
    cases h
    exact ⟨_, e⟩
  · cases h
theorem s_whl (hp : PassesOwn (model X.prog X.w) X.A X.env X.xe) {c : Expr} {body : List Stmt} {ic : Ir} {ib : List Is} {pos : Pos} (hc : COk C cf X c ic) (hb : SBOk C cf X body ib) : SOk C cf X (.While c body [] pos) (.whl ic ib) := by
  intro S θ F H ow st σ env fl env1 st1 D fi ev k
  unfold exS at ev
  obtain ⟨n, en⟩ := whlD_some ev
  refine ss (ps_while hp pt_sem pss_sem) ?_
  let W : Nat → L2.St → Hp → Prop := fun m σ H => ∃ θ3 F3 ow3 s3 env3, FI C S θ3 F3 H ow3 s3 σ env3 ∧ Sx θ F θ3 F3 ∧ whlN (fun env st => if us ic = [] then evI cf env ic st else none) (fun env st => exB cf ib env st) m env3 s3 = some (fl, env1, st1)
  refine ⟨W, ⟨n, θ, F, ow, st, env, fi, Sx.refl, en⟩, ?_⟩
  rintro m σ3 H3 ⟨θ3, F3, ow3, s3, env3, fi3, x3, eg⟩
  cases m with
  | zero => cases eg
  | succ m =>
    unfold whlN at eg
    split at eg
    · rename_i s4 e1
      cases eg
      split at e1
      · exact hc θ3 F3 H3 ow3 s3 σ3 _ false _ _ fi3.o fi3.e e1 fun θ4 F4 H4 ow4 t4 o4 => k σ3 θ4 F4 H4 ow4 (fi3.ext t4 o4) (x3.trans t4.sx)
      · cases e1
    · rename_i s4 e1
      split at e1
      · refine hc θ3 F3 H3 ow3 s3 σ3 _ true _ _ fi3.o fi3.e e1 fun θ4 F4 H4 ow4 t4 o4 => ?_
        refine ⟨fun σ' H' => W m σ' H', fun σ' H' h => ⟨m, Nat.lt_succ_self _, h⟩, ?_⟩
        have fi4 := fi3.ext t4 o4
        have x4 := x3.trans t4.sx
        show SemB X body _ σ3 H4
        split at eg
        · rename_i env5 s5 e5
          exact hb S θ4 F4 H4 ow4 s4 σ3 _ .nx env5 s5 _ fi4 e5 fun σ' θ' F' H' ow' fi' x' => ⟨θ', F', ow', s5, env5, fi', x4.trans x', eg⟩
        · rename_i env5 s5 e5
          exact hb S θ4 F4 H4 ow4 s4 σ3 _ .ct env5 s5 _ fi4 e5 fun σ' θ' F' H' ow' fi' x' => ⟨θ', F', ow', s5, env5, fi', x4.trans x', eg⟩
        · rename_i env5 s5 e5
          cases eg
          exact hb S θ4 F4 H4 ow4 s4 σ3 _ .bk _ _ _ fi4 e5 fun σ' θ' F' H' ow' fi' x' => k σ' θ' F' H' ow' fi' (x4.trans x')
        · rename_i t' env5 s5 e5
          cases eg
          exact hb S θ4 F4 H4 ow4 s4 σ3 _ (.rt t') _ _ _ fi4 e5 k
        · cases eg
      · cases e1
    · cases eg
end
end Ev
/-! EvY5 -/
namespace Ev
open PySem PySem.Spec PyProof.Rows L2
/-! ### (a, b) = (x, y) -/
theorem sw_stores {ts vs : List Expr} {k k2 : Nat} {p p2 : Pos} {env : PySem.Env} {r : Option (List Str)} (hk : env.scope.kind = .function) (h : parSw env.scope ts vs = some r) : swappedStores [.Tuple ts k p] (.Tuple vs k2 p2) env = pure r := by
  have hb : env.blockKind = .function := by unfold Env.blockKind; rw [hk]; rfl
  have hs : (vs.any fun | .Starred .. => true | _ => false) = vs.any starB := rfl
  have hn : (ts.filterMap fun
    | .Name id pos => if env.kindOf id == some .local && pos.line == (ts.head?.map (·.pos.line)).getD 0 then some id else none
    | _ => none) = swNm env.scope ts := rfl
  unfold swappedStores
  simp only [hb, bne_self_eq_false, Bool.or_false]
  unfold parSw at h
  split at h
  · rename_i c
    cases h
    split
    · rfl
    · rename_i c'; exact absurd c c'
  · rename_i c
    split
    · rename_i c'; exact absurd c' c
    split at h
    · rename_i c2
      cases h
      split
      · rfl
      · rename_i c'; exact absurd c2 c'
    · rename_i c2
      split
      · rename_i c'; exact absurd c' c2
      split at h
      · rename_i c3
        cases h
        split
        · rfl
        · rename_i c'; exact absurd c3 c'
      · rename_i c3
        split
        · rename_i c'; exact absurd c' c3
        split at h
        · rename_i c4
          cases h
          split
          · rfl
          · rename_i c'; exact absurd c4 c'
        · rename_i c4
          split
          · rename_i c'; exact absurd c' c4
          split at h
          · cases h
          · rename_i c5
            cases h
            split
            · rename_i c'; exact absurd c' c5
            · rfl
theorem sw_some {sc : Scope} {ts vs : List Expr} {names : List Str} (h : parSw sc ts vs = some (some names)) : names = swNm sc ts ∧ (swNm sc ts).length = ts.length := by
  unfold parSw at h
  split at h
  · cases h
  · split at h
    · cases h
    · split at h
      · cases h
      · rename_i c3
        split at h
        · cases h
        · split at h
          · cases h
          · cases h
            refine ⟨rfl, ?_⟩
            simp only [Bool.or_eq_true, not_or, bne_iff_ne, ne_eq, Decidable.not_not] at c3
            exact c3.1
theorem fm_all {α β : Type} {f : α → Option β} : ∀ {l : List α}, (l.filterMap f).length = l.length → ∀ a ∈ l, ∃ b, f a = some b
  | [], _ => fun a ha => by cases ha
  | x :: l, h => by
    rw [List.filterMap_cons] at h
    cases e : f x with
    | none =>
      rw [e] at h
      have := List.length_filterMap_le f l
      simp only [List.length_cons] at h
      omega
    | some b =>
      rw [e] at h
      have ih := fm_all (f := f) (l := l) (by simpa using h)
      intro a ha
      rcases List.mem_cons.mp ha with rfl | ha
      · exact ⟨b, e⟩
      · exact ih a ha
theorem name_of {N : List Str} {sc : Scope} {e : Expr} {i : Nat} (h : nameIx N sc e = some i) : ∃ x p, e = .Name x p ∧ locB sc x = true ∧ ix N x = some i := by
  cases e with
  | Name x p =>
    have h : (if locB sc x = true then ix N x else none) = some i := h
    split at h
    · rename_i hl
      exact ⟨x, p, rfl, hl, h⟩
    · cases h
  | _ => cases h
section
variable {C : Ctx} {cf : CallF} {X : Cx}
def OwnTs (C : Ctx) (θ : Toks) (F H : Hp) (ow : OwF) : Nat → List T → List V → Prop
  | _, [], vs => vs = []
  | k, t :: ts, vs => ∃ v r, vs = v :: r ∧ OwnT C θ F H ow (.tmp k) t v ∧ OwnTs C θ F H ow (k + 1) ts r
theorem OwnTs.length {θ : Toks} {F H : Hp} {ow : OwF} : ∀ {k : Nat} {ts : List T} {vs : List V}, OwnTs C θ F H ow k ts vs → vs.length = ts.length
  | _, [], _, h => by cases (show _ = [] from h); rfl
  | _, t :: ts, vs, h => by obtain ⟨v, r, rfl, _, z⟩ := h; rw [List.length_cons, List.length_cons, OwnTs.length z]
theorem at_of {S : Start} : ∀ {es : List Expr} {is : List Ir}, Paired (fun e i => TOk C cf X e i ∧ nst e = true) es is → ∀ (k0 : Nat) θ F H ow st σ env ts st1 Q, FI C S θ F H ow st σ env → evTops cf env is st = some (ts, st1) →
    (∀ vs θ' F' H' ow', FI C S θ' F' H' ow' st1 σ env → Sx θ F θ' F' → OwnTs C θ' F' H' ow' k0 ts vs → (∀ k t v, k < k0 → OwnT C θ F H ow (.tmp k) t v → OwnT C θ' F' H' ow' (.tmp k) t v) → Q vs H') → SemA X es σ H Q
  | _, _, .nil, k0, θ, F, H, ow, st, σ, env, ts, st1, Q, fi, ev, k => by
    cases (show some (([] : List T), st) = some (ts, st1) from ev)
    exact sa pa_nil (k [] θ F H ow fi Sx.refl rfl fun _ _ _ _ h => h)
  | _, _, .cons (b := i) q r, k0, θ, F, H, ow, st, σ, env, ts, st1, Q, fi, ev, k => by
    unfold evTops at ev
    cases e1 : evTop cf env i st with
    | none => rw [e1] at ev; cases ev
    | some p =>
      obtain ⟨t, s1⟩ := p
      rw [e1] at ev
      simp only at ev
      split at ev
      · rename_i ts' s2 e2
        cases ev
        refine sa (pa_cons pe_sem pa_sem (star_cons q.2 _ _)) ?_
        refine q.1 θ F H ow st σ env t s1 _ fi.o fi.e e1 fun v θ1 F1 H1 ow1 t1 o1 r1 => ?_
        have fi1 := fi.ext t1 o1
        obtain ⟨ow2, fi2, own, keep⟩ := fi1.own (fun a h => fi.s.none fi.o a h) r1 (k := .tmp k0) (fun z => by cases z)
        refine at_of r (k0 + 1) θ1 F1 H1 ow2 s1 σ env ts' _ _ fi2 e2 fun vs θ3 F3 H3 ow3 fi3 x3 own3 keep3 => ?_
        refine k (v :: vs) θ3 F3 H3 ow3 fi3 (t1.sx.trans x3) ⟨v, vs, rfl, keep3 k0 t v (Nat.lt_succ_self _) own, own3⟩ fun k' t' v' hk' h' => ?_
        refine keep3 k' t' v' (by omega) ?_
        have h1 := OwnT.stp t1 (k := .tmp k') (fun z => by cases z) h'
        exact OwnT.reow (fun a ha => by rw [keep a (by rw [ha]; exact fun z => by cases z)]; exact ha) h1
      · cases ev
def setV (σ : L2.St) : List Nat → List V → L2.St
  | x :: xs, v :: vs => setV (σ.set x (some v)) xs vs
  | _, _ => σ
theorem set_all {S : Start} {θ : Toks} {F H : Hp} {st : Sst} : ∀ {xs : List Nat} {ts : List T} {vs : List V} {k0 : Nat} {ow : OwF} {σ : L2.St} {env env1 : Env}, FI C S θ F H ow st σ env → OwnTs C θ F H ow k0 ts vs → setAll env xs ts = some env1 → ∃ ow', FI C S θ F H ow' st (setV σ xs vs) env1
  | [], [], vs, k0, ow, σ, env, env1, fi, h, e => by
    cases e
    cases (show vs = [] from h)
    exact ⟨ow, fi⟩
  | [], _ :: _, _, _, _, _, _, _, _, _, e => by cases e
  | _ :: _, [], _, _, _, _, _, _, _, _, e => by cases e
  | x :: xs, t :: ts, vs, k0, ow, σ, env, env1, fi, h, e => by
    obtain ⟨v, r, rfl, own, z⟩ := h
    unfold setAll at e
    split at e
    · rename_i hx
      obtain ⟨ow1, fi1, own1, keep⟩ := fi.move (i := x) own
      have gen : ∀ {k : Nat} {ts : List T} {vs : List V}, k0 < k → OwnTs C θ F H ow k ts vs → OwnTs C θ F H ow1 k ts vs := by
        intro k ts
        induction ts generalizing k with
        | nil => intro vs _ h; exact h
        | cons t ts ih =>
          intro vs hk h
          obtain ⟨v, r, rfl, o, z⟩ := h
          exact ⟨v, r, rfl, OwnT.reow (fun a ha => keep a k (by omega) ha) o, ih (by omega) z⟩
      have := set_all (fi1.setv hx own1) (gen (Nat.lt_succ_self _) z) e
      exact this
    · cases e
theorem names_tg {N : List Str} {sc : Scope} : ∀ {ts : List Expr} {xs : List Nat}, mapO (nameIx N sc) ts = some xs → tgsOf N sc ts = some (xs.map Tg.n)
  | [], xs, h => by cases h; rfl
  | e :: es, xs, h => by
    unfold mapO at h
    split at h
    · rename_i b bs e1 e2
      cases h
      have ih := names_tg e2
      cases e with
      | Name x p =>
        have e1 : (if locB sc x = true then ix N x else none) = some b := e1
        show (match tgOf N sc (.Name x p), tgsOf N sc es with
          | some t, some ts => some (t :: ts)
          | _, _ => none) = _
        rw [ih]
        have : tgOf N sc (.Name x p) = some (.n b) := by
          show (if locB sc x = true then (match ix N x with
            | some i => some (Tg.n i)
            | none => none) else none) = _
          split at e1
          · rename_i hl
            rw [if_pos hl, e1]
          · cases e1
        rw [this]
        rfl
      | _ => cases e1
    · cases h
theorem gnames {K : PySem.W.Frag} {H : Hp} {Q : L2.St → Hp → Prop} : ∀ {xs : List Nat} {vs : List V} {σ : L2.St}, xs.length = vs.length → Q (setV σ xs vs) H → gTgs K (xs.map Tg.n) vs σ H Q
  | [], [], σ, _, q => ⟨rfl, q⟩
  | [], _ :: _, _, h, _ => by simp at h
  | _ :: _, [], _, h, _ => by simp at h
  | x :: xs, v :: vs, σ, h, q => ⟨v, vs, rfl, gnames (by simpa using h) q⟩
theorem s_par {N : List Str} (hK : X.K = C.K) (hN : X.N = N) (nd : N.Nodup) (hc : X.calm = true) (hfn : ∀ x, X.fn x = true) (hkd : X.env.scope.kind = .function) {ts es : List Expr} {xs : List Nat} {is : List Ir} {kk k2 : Nat} {pt p2 pos : Pos}
    (hx : mapO (nameIx N X.env.scope) ts = some xs) (he : Paired (fun e i => TOk C cf X e i ∧ nst e = true) es is) (hl : xs.length = is.length) (hnd : xs.Nodup) (hpar : parOk X.env.scope ts es = true) (hz : xs.length ≤ 100) :
    SOk C cf X (.Assign [.Tuple ts kk pt] (.Tuple es k2 p2) pos) (.par xs is) := by
  intro S θ F H ow st σ env fl env1 st1 D fi ev k
  obtain ⟨F1, ow1, fi1, x1⟩ := fi.frzn (usL is)
  unfold exS at ev
  generalize frz (usL is) env = env2 at ev fi1
  cases e1 : evTops cf env2 is st with
  | none => rw [e1] at ev; cases ev
  | some p =>
    obtain ⟨tt, s1⟩ := p
    rw [e1] at ev
    simp only at ev
    split at ev
    · rename_i env3 e2
      cases ev
      have hlen : ∀ {θ F H ow k vs}, OwnTs C θ F H ow k tt vs → xs.length = vs.length := by
        intro θ F H ow k vs h
        have hle : ∀ {xs : List Nat} {ts : List T} {env env1 : Env}, setAll env xs ts = some env1 → xs.length = ts.length := by
          intro xs
          induction xs with
          | nil => intro ts env env1 h; cases ts with
            | nil => rfl
            | cons _ _ => cases h
          | cons x xs ih => intro ts env env1 h; cases ts with
            | nil => cases h
            | cons t ts =>
              unfold setAll at h
              split at h
              · rw [List.length_cons, List.length_cons, ih h]
              · cases h
        rw [hle e2, h.length]
      have main : SemA X es σ H (fun vs H1 => xs.length = vs.length ∧ ∃ θ2 F2 ow2, FI C S θ2 F2 H1 ow2 st1 σ env2 ∧ Sx θ F θ2 F2 ∧ OwnTs C θ2 F2 H1 ow2 0 tt vs) :=
        at_of he 0 θ F1 H ow1 st σ env2 tt st1 _ fi1 e1 fun vs θ2 F2 H2 ow2 fi2 x2 own2 _ => ⟨hlen own2, θ2, F2, ow2, fi2, x1.trans x2, own2⟩
      have fin : ∀ {vs H1}, (∃ θ2 F2 ow2, FI C S θ2 F2 H1 ow2 st1 σ env2 ∧ Sx θ F θ2 F2 ∧ OwnTs C θ2 F2 H1 ow2 0 tt vs) → D.nx (setV σ xs vs) H1 := by
        rintro vs H1 ⟨θ2, F2, ow2, fi2, x2, own2⟩
        obtain ⟨ow3, fi3⟩ := set_all fi2 own2 e2
        exact k _ θ2 F2 H1 ow3 fi3 x2
      unfold parOk at hpar
      cases hsw : parSw X.env.scope ts es with
      | none => rw [hsw] at hpar; cases hpar
      | some r =>
        have hst := sw_stores (k := kk) (k2 := k2) (p := pt) (p2 := p2) hkd hsw
        cases r with
        | none =>
          have hpg : PG X (.Tuple ts kk pt) (gTg X.K (.t (xs.map Tg.n))) := by
            have htg : tgOf N X.env.scope (.Tuple ts kk pt) = some (.t (xs.map Tg.n)) := by
              show (match tgsOf N X.env.scope ts with
                | some ts => some (Tg.t ts)
                | none => none) = _
              rw [names_tg hx]
            refine pg_of (N := N) (sc := X.env.scope) hN nd hc (fun x hx => ⟨?_, .inl (hfn x)⟩) _ _ htg
            unfold locB at hx
            split at hx
            · left; assumption
            · right; assumption
            · cases hx
          refine ss (ps_asg (pe_tup pa_sem) hpg sole_tup hst (by rfl)) ?_
          refine SemA.mono main fun vs H1 ⟨hv, h⟩ => ?_
          have hz : vs.length ≤ sizeLine := by rw [← hv, sizeLine_eq]; omega
          refine ⟨hz, fun p hp => ?_⟩
          refine ⟨p, vs, rfl, .inl (SqT.of upd_same), by rw [List.length_map]; exact hv.symm, gnames hv ?_⟩
          refine fin ?_
          obtain ⟨θ2, F2, ow2, fi2, x2, own2⟩ := h
          obtain ⟨o3, t3⟩ := fi2.o.laid (o := .tup vs) hp
          refine ⟨θ2, F2, ow2, fi2.ext t3 o3, x2, ?_⟩
          have gen : ∀ {k : Nat} {ts : List T} {vs' : List V}, OwnTs C θ2 F2 H1 ow2 k ts vs' → OwnTs C θ2 F2 (upd H1 p (.tup vs)) ow2 k ts vs' := by
            intro k ts
            induction ts generalizing k with
            | nil => intro vs h; exact h
            | cons t ts ih =>
              intro vs h
              obtain ⟨v, r, rfl, o, z⟩ := h
              exact ⟨v, r, rfl, OwnT.stp t3 (k := .tmp k) (fun z => by cases z) o, ih z⟩
          exact gen own2
        | some names =>
          rw [hsw] at hpar
          have hpar : (ts.length == 2) = true := hpar
          obtain ⟨hnm, hln⟩ := sw_some hsw
          have h2 : ts.length = 2 := eq_of_beq hpar
          match ts, h2, hx with
          | [t1, t2], _, hx =>
            cases mapO_paired hx with
            | cons q1 r1 =>
              cases r1 with
              | cons q2 r2 =>
                cases r2
                rename_i i j _
                obtain ⟨x, px, rfl, l1, i1⟩ := name_of q1
                obtain ⟨y, py, rfl, l2, i2⟩ := name_of q2
                have hij : i ≠ j := fun z => by subst z; simp at hnd
                have key : X.env.scope.names.lookup x = some .local ∧ X.env.scope.names.lookup y = some .local ∧ swNm X.env.scope [.Name x px, .Name y py] = [x, y] := by
                  unfold swNm at hln ⊢
                  obtain ⟨b1, h1⟩ := fm_all hln (.Name x px) (by simp)
                  obtain ⟨b2, h2⟩ := fm_all hln (.Name y py) (by simp)
                  simp only at h1 h2
                  split at h1
                  · rename_i c1
                    split at h2
                    · rename_i c2
                      have d1 := Bool.and_eq_true_iff.mp c1
                      have d2 := Bool.and_eq_true_iff.mp c2
                      refine ⟨eq_of_beq d1.1, eq_of_beq d2.1, ?_⟩
                      rw [List.filterMap_cons_some (b := x) (by simp only; rw [if_pos c1]), List.filterMap_cons_some (b := y) (by simp only; rw [if_pos c2])]
                      rfl
                    · cases h2
                  · cases h1
                obtain ⟨k1, k2', k3⟩ := key
                rw [hnm, k3] at hst
                have hes : es.length = 2 := by rw [paired_length he, ← hl]; rfl
                match es, hes, he, hst, main with
                | [a, b], _, he, hst, main =>
                  refine ss (ps_par hc (by rw [hN]; exact nd) (by rw [hN]; exact ix_get i1) (by rw [hN]; exact ix_get i2) hij k1 k2' pa_sem hst sole_tup) ?_
                  refine SemA.mono main fun vs H1 ⟨hv, h⟩ => ?_
                  match vs, hv, h with
                  | [v, w], _, h => exact ⟨v, w, rfl, fin h⟩
    · cases ev
end
end Ev
/-! EvY6 -/
namespace Ev
open PySem PySem.Spec PyProof.Rows L2
structure XFn (g : Gi) (C : Ctx) (cf : CallF) (N : List Str) (X : Cx) : Prop where
  ok : XOk g C cf N X
  fn : ∀ x, X.fn x = true
  kd : X.env.scope.kind = .function
  ps : PassesOwn (model X.prog X.w) X.A X.env X.xe
section
variable {C : Ctx} {cf : CallF} {g : Gi} {N : List Str} {X : Cx}
theorem loc_of {sc : Scope} {x : Str} (h : locB sc x = true) : Loc sc x := by
  unfold locB at h
  split at h
  · left; assumption
  · right; assumption
  · cases h
theorem ssnd (Xf : XFn g C cf N X) : ∀ (n : Nat) (s : Stmt) (is : Is), compS g N X.env.scope n s = some is → SOk C cf X s is := by
  have ok := Xf.ok
  have hK := ok.hK
  have hN := ok.hN
  have nd : X.N.Nodup := by rw [hN]; exact ok.nd
  have S := snd (C := C) (cf := cf) (g := g) (N := N) 30 X ok
  have EN : ∀ {e : Expr} {i : Ir}, compE g N 30 X.env.scope e = some i → EOk C cf X e i ∧ nst e = true := fun h => ⟨(S _ _ h).E, comp_nst h⟩
  have pgl : ∀ {e : Expr} {t : Tg}, tgOf N X.env.scope e = some t → PG X e (gTg X.K t) := fun h => pg_of hN ok.nd ok.calm (fun x hx => ⟨loc_of hx, .inl (Xf.fn x)⟩) _ _ h
  intro n
  induction n with
  | zero => intro s is h; cases h
  | succ n ih =>
    intro s is h
    have B : ∀ {b : List Stmt} {is : List Is}, mapO (compS g N X.env.scope n) b = some is → SBOk C cf X b is := fun h => b_of (paired_mono (fun s i h => ih s i h) (mapO_paired h))
    cases s with
    | Assign tgs e pos =>
      cases tgs with
      | nil => cases h
      | cons tg r => cases r with
       | cons _ _ => cases h
       | nil =>
        cases tg with
        | Name y py =>
          change (match nameIx N X.env.scope (.Name y py) with
            | none => none
            | some y' => match (generalizing := false) e with
              | .Call (.Attribute (.Name x _) m ap) as [] cp => if (m == "pop") = true then (if (ap.endLine == cp.line) = false then none else match (generalizing := false) ix N x, as with
                  | some i, [] => if (visB X.env.scope x && okN x) = true then some (Is.pop y' i) else none
                  | some i, [a] => if (visB X.env.scope x && okN x) = true then (compE g N 30 X.env.scope a).map (Is.popAt y' i) else none
                  | _, _ => none)
                else (compE g N 30 X.env.scope e).map (Is.set (.n y'))
              | e => (compE g N 30 X.env.scope e).map (Is.set (.n y'))) = some is at h
          cases e0 : nameIx N X.env.scope (.Name y py) with
          | none => rw [e0] at h; cases h
          | some y' =>
            rw [e0] at h
            simp only at h
            obtain ⟨_, _, ee, hl, hj⟩ := name_of e0
            cases ee
            have hj' : X.N[y']? = some y := by rw [hN]; exact ix_get hj
            have gen : ∀ e, (compE g N 30 X.env.scope e).map (Is.set (.n y')) = some is → SOk C cf X (.Assign [.Name y py] e pos) is := by
              intro e h
              obtain ⟨i, e1, rfl⟩ := Option.map_eq_some_iff.mp h
              exact s_set (S _ _ e1).A nd hj' (loc_of hl) (Xf.fn y)
            split at h
            · rename_i x px m ap as cp
              split at h
              · rename_i hm
                have hm : m = "pop" := eq_of_beq hm
                subst hm
                split at h
                · cases h
                · rename_i hli
                  have hli : (ap.endLine == cp.line) = true := by simpa using hli
                  split at h
                  · rename_i i hi
                    split at h
                    · rename_i hc
                      cases h
                      have hc := Bool.and_eq_true_iff.mp hc
                      exact s_pop hN hi hc.1 hc.2 hli nd hj' (loc_of hl) (Xf.fn y)
                    · cases h
                  · rename_i i a hi
                    split at h
                    · rename_i hc
                      obtain ⟨ia, e1, rfl⟩ := Option.map_eq_some_iff.mp h
                      have hc := Bool.and_eq_true_iff.mp hc
                      exact s_popAt hN hi hc.1 hc.2 hli nd hj' (loc_of hl) (Xf.fn y) (S _ _ e1).E (comp_nst e1)
                    · cases h
                  · cases h
              · exact gen _ h
            · exact gen _ h
        | Tuple ts kk pt =>
          change (if isTup e = true then (match (generalizing := false) e with
            | .Tuple es _ _ => match mapO (nameIx N X.env.scope) ts, mapO (compE g N 30 X.env.scope) es with
              | some xs, some is => if (xs.length = is.length && decide xs.Nodup && parOk X.env.scope ts es && decide (xs.length ≤ 100)) = true then some (Is.par xs is) else none
              | _, _ => none
            | _ => none) else (match tgOf N X.env.scope (.Tuple ts kk pt), compE g N 30 X.env.scope e with
              | some t, some i => some (Is.set t i)
              | _, _ => none)) = some is at h
          split at h
          · split at h
            · rename_i es k2 p2
              split at h
              · rename_i xs iss e1 e2
                split at h
                · rename_i hc
                  cases h
                  simp only [Bool.and_eq_true, decide_eq_true_eq] at hc
                  exact s_par hK hN ok.nd ok.calm Xf.fn Xf.kd e1 (paired_mono (fun e i h => ⟨(S _ _ h).T, comp_nst h⟩) (mapO_paired e2)) hc.1.1.1 hc.1.1.2 hc.1.2 hc.2
                · cases h
              · cases h
            · cases h
          · rename_i hnt
            split at h
            · rename_i t i e1 e2
              cases h
              have hg := pgl e1
              have e1' : (match tgsOf N X.env.scope ts with
                | some ts => some (Tg.t ts)
                | none => none) = some t := e1
              split at e1'
              · cases e1'
                exact s_setT hK (S _ _ e2).E hg (by simpa using hnt)
              · cases e1'
            · cases h
        | Subscript o i ps =>
          cases o with
          | Name x px =>
            change (match ix N x, compE g N 30 X.env.scope i, compE g N 30 X.env.scope e with
              | some x', some k, some v => if (visB X.env.scope x && okN x) = true then some (Is.put x' k v) else none
              | _, _, _ => none) = some is at h
            split at h
            · rename_i x' k v e1 e2 e3
              split at h
              · rename_i hc
                cases h
                have hc := Bool.and_eq_true_iff.mp hc
                exact s_put ok.un hN e1 hc.1 hc.2 (S _ _ e3).E (S _ _ e2).E (comp_nst e2)
              · cases h
            · cases h
          | _ => cases h
        | _ => cases h
    | Expr e pos =>
      have gen : (if isCompB e = true then none else (compE g N 30 X.env.scope e).map Is.ex) = some is → SOk C cf X (.Expr e pos) is := by
        intro h
        split at h
        · cases h
        · rename_i hc
          obtain ⟨i, e1, rfl⟩ := Option.map_eq_some_iff.mp h
          exact s_ex (S _ _ e1).T (by simpa using hc)
      change (match (generalizing := false) e with
        | .Call (.Attribute (.Name x _) m ap) [a] [] cp => match ix N x with
          | none => none
          | some i => if (visB X.env.scope x && okN x && (ap.endLine == cp.line)) = true then
              if (m == "append") = true then (match (generalizing := false) a with
                | .Call (.Attribute (.Name y _) m2 ap2) [b] [] cp2 => if (m2 == "pop" && (ap2.endLine == cp2.line)) = true then (match ix N y with
                    | some j => if (visB X.env.scope y && okN y) = true then (compE g N 30 X.env.scope b).map (Is.appPop i j) else none
                    | none => none) else (compE g N 30 X.env.scope a).map (Is.app i)
                | a => (compE g N 30 X.env.scope a).map (Is.app i))
              else if (m == "extend") = true then (compE g N 30 X.env.scope a).map (Is.ext i)
              else if (m == "update") = true then (compE g N 30 X.env.scope a).map (Is.upd i)
              else none
            else none
        | e => if isCompB e = true then none else (compE g N 30 X.env.scope e).map Is.ex) = some is at h
      split at h
      · rename_i x px m ap a cp
        split at h
        · cases h
        · rename_i i hi
          split at h
          · rename_i hc
            simp only [Bool.and_eq_true] at hc
            obtain ⟨⟨hv, ho⟩, hli⟩ := hc
            split at h
            · rename_i hm
              have hm : m = "append" := eq_of_beq hm
              subst hm
              have app : ∀ a, (compE g N 30 X.env.scope a).map (Is.app i) = some is → SOk C cf X (.Expr (.Call (.Attribute (.Name x px) "append" ap) [a] [] cp) pos) is := by
                intro a h
                obtain ⟨ia, e1, rfl⟩ := Option.map_eq_some_iff.mp h
                exact s_app hN hi hv ho (S _ _ e1).E (comp_nst e1) hli
              split at h
              · rename_i y py m2 ap2 b cp2
                split at h
                · rename_i hc2
                  have hc2 := Bool.and_eq_true_iff.mp hc2
                  have hm2 : m2 = "pop" := eq_of_beq hc2.1
                  subst hm2
                  split at h
                  · rename_i j hj
                    split at h
                    · rename_i hc3
                      have hc3 := Bool.and_eq_true_iff.mp hc3
                      obtain ⟨ib, e1, rfl⟩ := Option.map_eq_some_iff.mp h
                      exact s_appPop hN hj hc3.1 hc3.2 hc2.2 hi hv ho hli (S _ _ e1).E (comp_nst e1)
                    · cases h
                  · cases h
                · exact app _ h
              · exact app _ h
            · split at h
              · rename_i hm
                have hm : m = "extend" := eq_of_beq hm
                subst hm
                obtain ⟨ia, e1, rfl⟩ := Option.map_eq_some_iff.mp h
                exact s_ext hN hi hv ho (S _ _ e1).B (comp_nst e1) hli
              · split at h
                · rename_i hm
                  have hm : m = "update" := eq_of_beq hm
                  subst hm
                  obtain ⟨ia, e1, rfl⟩ := Option.map_eq_some_iff.mp h
                  exact s_upd hN hi hv ho (S _ _ e1).E (comp_nst e1) hli
                · cases h
          · cases h
      · exact gen h
    | If c a b pos =>
      change (match compE g N 30 X.env.scope c, mapO (compS g N X.env.scope n) a, mapO (compS g N X.env.scope n) b with
        | some i, some j, some k => some (Is.iff i j k)
        | _, _, _ => none) = some is at h
      split at h
      · rename_i i j k e1 e2 e3
        cases h
        exact s_if (S _ _ e1).C (B e2) (B e3)
      · cases h
    | For tg it body orelse pos =>
      cases orelse with
      | cons _ _ => cases h
      | nil =>
        change (match tgOf N X.env.scope tg, itOf g X.env.scope (compE g N 30 X.env.scope) tg it, mapO (compS g N X.env.scope n) body with
          | some t, some (im, its), some b => some (Is.for t im its b)
          | _, _, _ => none) = some is at h
        split at h
        · rename_i t im its b e1 e2 e3
          cases h
          obtain ⟨es, h1, h2, h3, h9⟩ := it_inv hK ok.blt e2
          exact s_for hK ok.calm Xf.ps (pgl e1) h1 (la_of (paired_mono (fun e i h => EN h) h2) h3) (B e3) (fold_it h9 X.env)
        · cases h
    | While c body orelse pos =>
      cases orelse with
      | cons _ _ => cases h
      | nil =>
        change (match compE g N 30 X.env.scope c, mapO (compS g N X.env.scope n) body with
          | some i, some b => some (Is.whl i b)
          | _, _ => none) = some is at h
        split at h
        · rename_i i b e1 e2
          cases h
          exact s_whl Xf.ps (S _ _ e1).C (B e2)
        · cases h
    | Return e pos =>
      cases e with
      | none => cases h; exact s_retN
      | some e =>
        obtain ⟨i, e1, e2⟩ := Option.bind_eq_some_iff.mp (show ((compE g N 30 X.env.scope e).bind fun i => if retOk N X.env.scope e i = true then some (Is.ret i) else none) = some is from h)
        split at e2
        · rename_i hr
          cases e2
          refine s_ret (S _ _ e1).T fun j hj => ?_
          subst hj
          cases e with
          | Name x p =>
            have hr : (decide (ix N x = some j) && visB X.env.scope x && okN x) = true := hr
            simp only [Bool.and_eq_true, decide_eq_true_eq] at hr
            exact n_var hN hr.1.1 hr.1.2 hr.2
          | _ => cases hr
        · cases e2
    | Break pos => cases h; exact s_brk
    | Continue pos => cases h; exact s_cont
    | Pass pos => cases h; exact s_pass
    | Raise a b pos => cases h; exact s_dead
    | _ => cases h
end
end Ev
/-! EvZ1 -/
namespace Ev
open PySem PySem.Spec PyProof.Rows L2
/-! ### defs -/
section
variable {C : Ctx} {θ θ' : Toks} {F F' H H' : Hp} {ow owc : OwF} {st st1 : Sst}
open Classical in
theorem conv (hok : Hok θ F H ow st) (hw : ∀ a, owc a = if ow a = some .strm then some .strm else none) {ow' : OwF} (s : Stp θ F H owc θ' F' H' ow') (o : Hok θ' F' H' ow' st1) {t : T} {v : V} (r : ResT C θ' F' H' ow' H t v) :
    ∃ ow2, Stp θ F H ow θ' F' H' ow2 ∧ Hok θ' F' H' ow2 st1 ∧ ResT C θ' F' H' ow2 H t v := by
  let ow2 : OwF := fun a => if (∃ u, H a = some u) then ow a else if ow' a = some .strm then some .strm else none
  have old : ∀ a u, H a = some u → ow2 a = ow a := fun a u e => if_pos ⟨u, e⟩
  have new : ∀ a, H a = none → ow2 a = if ow' a = some .strm then some .strm else none := fun a e => if_neg (fun ⟨u, h⟩ => by rw [e] at h; cases h)
  have ns : ∀ a, ow a ≠ some .strm → owc a ≠ some .strm := fun a h => by
    rw [hw a, if_neg h]
    exact fun z => by cases z
  have sl : ∀ q, ow' q = some .strm → ow2 q = some .strm := fun q hq => by
    cases e : H q with
    | none => rw [new q e, if_pos hq]
    | some u =>
      rw [old q u e]
      have := s.oo q u e
      rw [hq, hw q] at this
      by_cases z : ow q = some .strm
      · exact z
      · rw [if_neg z] at this; cases this
  have nn : ∀ a, H a = none → ow' a = none → ow2 a = none := fun a h1 h2 => by
    rw [new a h1, h2]
    exact if_neg (fun z => by cases z)
  refine ⟨ow2, ⟨s.th, s.fx, fun a u e z => s.ex a u e (ns a z), old, fun a u e n z => s.fn a u e n (ns a z)⟩, ⟨o.le, fun a u e => ?_, fun a k e => ?_, ?_⟩, ?_⟩
  · cases eH : H a with
    | none =>
      exact nn a eH (o.sep a u e)
    | some w =>
      rw [old a w eH]
      cases eF : F a with
      | none =>
        by_cases zs : ow a = some .strm
        · have h1 := s.oo a w eH
          rw [hw a, if_pos zs, o.sep a u e] at h1
          cases h1
        · cases eo : ow a with
          | none => rfl
          | some q =>
            obtain ⟨o', e', nt⟩ := hok.liv a q eo
            rw [eH] at e'
            cases e'
            rw [s.fn a w eH nt (ns a zs) eF] at e
            cases e
      | some x => exact hok.sep a x eF
  · cases eH : H a with
    | none =>
      rw [new a eH] at e
      split at e
      · rename_i z; exact o.liv a _ z
      · cases e
    | some w =>
      rw [old a w eH] at e
      by_cases zs : ow a = some .strm
      · have h1 := s.oo a w eH
        rw [hw a, if_pos zs] at h1
        exact o.liv a _ h1
      · obtain ⟨o', e', nt⟩ := hok.liv a k e
        rw [eH] at e'
        cases e'
        exact ⟨w, s.ex a w eH (ns a zs), nt⟩
  · have h := o.str
    cases st1 with
    | none => exact h
    | some s8 =>
      obtain ⟨p, l, e1, e2, e3, e4, e5, e6⟩ := h
      exact ⟨p, l, e1, e2, e3, e4, sl p e5, sl l e6⟩
  · cases t with
    | fz d => exact r
    | ol ds => obtain ⟨a, vs, e, h0, h1, h2, x⟩ := r; exact ⟨a, vs, e, h0, h1, nn a h0 h2, x⟩
    | od ds => obtain ⟨a, vs, e, h0, h1, h2, x⟩ := r; exact ⟨a, vs, e, h0, h1, nn a h0 h2, x⟩
    | oo c ds => obtain ⟨a, dx, vs, e, h0, h1, h2, x⟩ := r; exact ⟨a, dx, vs, e, h0, h1, nn a h0 h2, x⟩
end
/-- what all defs at a level may lean on -/
structure GOk (g : Gi) (C : Ctx) (cf : CallF) (P : Program) (w : World) (K : PySem.W.Frag) (mg : Str → Option Value) (base : Heap) (k : Nat) : Prop where
  hK : K = C.K
  blt : ∀ x ∈ bltN, mg x = none
  cst : ∀ x d, g.cst.lookup x = some d → ∃ u v, mg x = some u ∧ RelV v u ∧ ∀ θ F, R C θ F d v
  cle : ClsEnv C (g.cls.map (·.1))
  clm : ∀ c ∈ g.cls.map (·.1), mg c = some (.ref (C.cls c))
  fld : ∀ f cs, g.fld.lookup f = some cs → ∀ c ∈ cs, Cls C.K (C.cls c) ∧ NoAttr C.K (C.cls c) f
  fns : ∀ x ps sh, g.fns.lookup x = some (ps, sh) → ∃ f fd, mg x = some (.ref f) ∧ PySem.W.keepIn K (.ref f) = true ∧ FnOk P w K mg base CX0 k f fd ps (spC C cf ps.length (x, none)) ∧ BindSh K fd ps sh
  cls : ∀ c ps sh, g.cls.lookup c = some (ps, sh) → ∃ f fd sl, FnOk P w K mg base CX0 k f fd (sl :: ps) (spI C cf ps.length c) ∧ Mk K (C.cls c) f ∧ Binds K fd (sl :: ps) []
theorem lookup_key {α : Type} {l : List (Str × α)} {x : Str} {a : α} (h : l.lookup x = some a) : x ∈ l.map (·.1) := List.mem_map.mpr ⟨(x, a), lookup_mem' h, rfl⟩
section
variable {g : Gi} {C : Ctx} {tb : Str × Option Str → Option FnI} {pr : PrimF} {P : Program} {w : World} {K : PySem.W.Frag} {mg : Str → Option Value} {base : Heap} {k : Nat}
theorem GOk.xfn {cf : CallF} (G : GOk g C cf P w K mg base k) {N : List Str} {ps : List Str} {qual : Str} {scope : Scope} {f : Addr} {cd : Value} {A : Around} {outer : List PySem.Env} {s : Shared} {H : Hp} {E : XK} (S : FnScope N ps scope) (hr : Room (k + 1) (A.deeper (envOfC qual scope s.heap.objs.size f cd))) :
    XFn g C cf N (cxOf CX0 P w K mg base N qual scope f cd A outer s H E) := by
  refine ⟨⟨G.hK, rfl, S.nd, rfl, ?_, G.blt, G.cst, G.cle, fun x ps sh e => ?_, fun c ps sh e => ?_, G.clm, G.fld⟩, fun _ => rfl, S.kind, ?_⟩
  · have := hr.un
    show (A.deeper (envOfC qual scope s.heap.objs.size f cd)).units + 200 < cLine
    omega
  · obtain ⟨f', fd, h1, h2, h3, h4⟩ := G.fns x ps sh e
    exact ⟨f', h1, h2, k, fd, h3, hr.mono (Nat.le_succ _), h4⟩
  · obtain ⟨f', fd, sl, h1, h2, h3⟩ := G.cls c ps sh e
    exact ⟨G.clm c (lookup_key e), k, f', fd, sl, h1, hr, h2, h3⟩
  · exact passes_of (K := fun e s'' => CX0 outer H s E e s'') (E₁ := fun e s'' => CX0 outer H s E e s'') rfl
/-- a def of the table, its text and its object -/
structure DefOk (g : Gi) (K : PySem.W.Frag) (mg : Str → Option Value) (x : Str) (fi : FnI) : Prop where
  ex : ∃ (ps : List Str) (sh : List (Nat × List Str)) (nm qual : Str) (params : Arguments) (body : List Stmt) (scope : Scope) (f : Addr) (fd : FuncData) (N : List Str), g.fns.lookup x = some (ps, sh) ∧ FunD K nm qual params body scope [] [] f fd ∧ fnScopeB N ps scope = true ∧ mapO (compS g N scope 30) body = some fi.body ∧
    fi.np = ps.length ∧ fi.ns = N.length ∧ mg x = some (.ref f) ∧ PySem.W.keepIn K (.ref f) = true ∧ BindSh K fd ps sh
theorem params_env {θ : Toks} {F H : Hp} {ow : OwF} {N : List Str} : ∀ {as : List D} {vs : List V}, Rs C θ F as vs → as.length ≤ N.length → EnvOk C θ F H ow (L2.start N vs) (as.map (fun d => some (T.fz d)) ++ List.replicate (N.length - as.length) none) := by
  intro as vs r hl
  have hv := r.length
  unfold L2.start
  refine ⟨by simp [hv], fun i t e => ?_⟩
  by_cases hi : i < as.length
  · rw [List.getElem?_append_left (by simpa using hi), List.getElem?_map] at e
    obtain ⟨d, ed, et⟩ := Option.map_eq_some_iff.mp e
    cases et
    obtain ⟨v, ev, rv⟩ := r.get ed
    refine ⟨v, ?_, rv⟩
    rw [List.getElem?_append_left (by simp [hv]; exact hi), List.getElem?_map, ev]
    rfl
  · rw [List.getElem?_append_right (by simpa using Nat.le_of_not_lt hi)] at e
    rw [List.getElem?_replicate] at e
    split at e
    · cases e
    · cases e
/-- what a def's compiled body promises -/
def spR (C : Ctx) (cf : CallF) (np : Nat) (fi : FnI) : Sp := fun vs H Q _ => vs.length = np ∧ ∃ θ F ow st as t st1, Hok θ F H ow st ∧ Rs C θ F as vs ∧ runFn cf fi as st = some (t, st1) ∧
  ∀ v θ' F' H' ow', Stp θ F H ow θ' F' H' ow' → Hok θ' F' H' ow' st1 → ResT C θ' F' H' ow' H t v → Q v H'
open Classical in
theorem fn_run {cf : CallF} {fi : FnI} {j : Nat} (G : GOk g C cf P w K mg base j) {ps N : List Str} {nm qual : Str} {params : Arguments} {body : List Stmt} {scope : Scope} {f : Addr} {fd : FuncData}
    (h2 : FunD K nm qual params body scope [] [] f fd) (h3 : fnScopeB N ps scope = true) (h4 : mapO (compS g N scope 30) body = some fi.body) (h6 : fi.ns = N.length) :
    FnOk P w K mg base CX0 (j + 2) f fd ps (spR C cf ps.length fi) := by
  have SC := fnScope_of h3
  refine h2.ok SC (fun vs H Q E q => q.1) fun cdv A outer s H vs Q E hr hsp => ?_
  refine ⟨SemB (cxOf CX0 P w K mg base N qual scope f cdv A outer s H E) body, pss_sem, ?_⟩
  obtain ⟨hl, θ, F, ow, st, as, t, st1, ok, ra, ec, kk⟩ := hsp
  have XF := G.xfn (A := A) (outer := outer) (s := s) (H := H) (E := E) (cd := cdv) (f := f) (qual := qual) SC hr
  have SB : SBOk C (cf) (cxOf CX0 P w K mg base N qual scope f cdv A outer s H E) body fi.body := b_of (paired_mono (fun s i h => ssnd XF 30 s i h) (mapO_paired h4))
  have hpl : ps.length ≤ N.length := by have := congrArg List.length SC.pre; rw [List.length_take] at this; omega
  have hal : as.length = ps.length := by rw [← ra.length]; exact hl
  let owc : OwF := fun a => if ow a = some .strm then some .strm else none
  have okc : Hok θ F H owc st := by
    refine ⟨ok.le, fun a o e => ?_, fun a q e => ?_, ?_⟩
    · show (if ow a = some .strm then some Ow.strm else none) = none
      rw [ok.sep a o e]
      exact if_neg (fun z => by cases z)
    · have e : (if ow a = some .strm then some Ow.strm else none) = some q := e
      split at e
      · rename_i z; exact ok.liv a _ z
      · cases e
    · have h := ok.str
      cases st with
      | none => exact h
      | some s8 =>
        obtain ⟨p, l, e1, e2, e3, e4, e5, e6⟩ := h
        exact ⟨p, l, e1, e2, e3, e4, if_pos e5, if_pos e6⟩
  have fi0 : FI C ⟨θ, F, H, owc⟩ θ F H owc st (L2.start N vs) (as.map (fun d => some (T.fz d)) ++ List.replicate (N.length - as.length) none) := by
    refine ⟨Stp.refl, okc, params_env ra (by omega), fun a q e hq => ?_⟩
    have e : (if ow a = some .strm then some Ow.strm else none) = some q := e
    split at e
    · cases e; exact absurd rfl hq
    · cases e
  have ec' : runFn cf fi as st = some (t, st1) := ec
  unfold runFn at ec'
  rw [h6] at ec'
  have done : ∀ v θ' F' H' ow', Stp θ F H owc θ' F' H' ow' → Hok θ' F' H' ow' st1 → ResT C θ' F' H' ow' H t v → Q v H' := fun v θ' F' H' ow' s' o' r' => by
    obtain ⟨ow2, s2, o2, r2⟩ := conv ok (fun _ => rfl) s' o' r'
    exact kk v θ' F' H' ow2 s2 o2 r2
  cases e1 : exB (cf) fi.body (as.map (fun d => some (T.fz d)) ++ List.replicate (N.length - as.length) none) st with
  | none => rw [e1] at ec'; cases ec'
  | some p =>
    obtain ⟨fl, env1, s1⟩ := p
    rw [e1] at ec'
    refine SB ⟨θ, F, H, owc⟩ θ F H owc st _ _ fl env1 s1 _ fi0 e1 ?_
    cases fl with
    | rt t' =>
      cases ec'
      exact fun v θ' F' H' ow' s' o' r' => done v θ' F' H' ow' s' o' r'
    | nx =>
      cases ec'
      exact fun σ' θ' F' H' ow' fi' _ => done .non θ' F' H' ow' fi'.s fi'.o rfl
    | bk => cases ec'
    | ct => cases ec'
theorem fn_lvl {x : Str} {fi : FnI} (G : GOk g C (callF tb pr k) P w K mg base (3 * k)) (hp : pr k (x, none) = none) (ht : tb (x, none) = some fi) (Df : DefOk g K mg x fi) :
    ∃ (ps : List Str) (sh : List (Nat × List Str)) (f : Addr) (fd : FuncData), g.fns.lookup x = some (ps, sh) ∧ mg x = some (.ref f) ∧ PySem.W.keepIn K (.ref f) = true ∧ BindSh K fd ps sh ∧ FnOk P w K mg base CX0 (3 * k + 3) f fd ps (spC C (callF tb pr (k + 1)) ps.length (x, none)) := by
  obtain ⟨ps, sh, nm, qual, params, body, scope, f, fd, N, h1, h2, h3, h4, h5, h6, h7, h8, h9⟩ := Df.ex
  refine ⟨ps, sh, f, fd, h1, h7, h8, h9, ((fn_run G h2 h3 h4 h6).mono (by omega)).imp fun vs H Q E q => ?_⟩
  obtain ⟨hl, θ, F, ow, st, as, t, st1, ok, ra, ec, kk⟩ := q
  refine ⟨hl, θ, F, ow, st, as, t, st1, ok, ra, ?_, kk⟩
  unfold callF at ec
  rw [hp, ht] at ec
  simp only at ec
  rw [if_pos (by rw [h5, ← ra.length]; exact hl)] at ec
  exact ec
end
end Ev
/-! EvZ2 -/
namespace Ev
open PySem PySem.Spec PyProof.Rows L2
/-! ### all levels -/
structure Stat (g : Gi) (C : Ctx) (tb : Str × Option Str → Option FnI) (pr : PrimF) (P : Program) (w : World) (K : PySem.W.Frag) (mg : Str → Option Value) (base : Heap) : Prop where
  hK : K = C.K
  blt : ∀ x ∈ bltN, mg x = none
  cst : ∀ x d, g.cst.lookup x = some d → ∃ u v, mg x = some u ∧ RelV v u ∧ ∀ θ F, R C θ F d v
  cle : ClsEnv C (g.cls.map (·.1))
  clm : ∀ c ∈ g.cls.map (·.1), mg c = some (.ref (C.cls c))
  fld : ∀ f cs, g.fld.lookup f = some cs → ∀ c ∈ cs, Cls C.K (C.cls c) ∧ NoAttr C.K (C.cls c) f
  fns : ∀ x ps sh, g.fns.lookup x = some (ps, sh) → (∀ k, pr k (x, none) = none) ∧ ∃ fi, tb (x, none) = some fi ∧ DefOk g K mg x fi
  cls : ∀ c ps sh, g.cls.lookup c = some (ps, sh) → ∃ f fd sl, Mk K (C.cls c) f ∧ Binds K fd (sl :: ps) [] ∧ ∀ k, GOk g C (callF tb pr k) P w K mg base (3 * k) → FnOk P w K mg base CX0 (3 * k + 3) f fd (sl :: ps) (spI C (callF tb pr (k + 1)) ps.length c)
theorem fn_never {P : Program} {w : World} {K : PySem.W.Frag} {mg : Str → Option Value} {base : Heap} {k : Nat} {f : Addr} {fd : FuncData} {ps : List Str} {sp : Sp} (h : ∀ vs H Q E, ¬ sp vs H Q E) : FnOk P w K mg base CX0 k f fd ps sp :=
  ⟨fun vs H Q E q => absurd q (h vs H Q E), fun A outer s H args us vs Q E _ _ _ _ q => absurd q (h vs H Q E)⟩
theorem levels {g : Gi} {C : Ctx} {tb : Str × Option Str → Option FnI} {pr : PrimF} {P : Program} {w : World} {K : PySem.W.Frag} {mg : Str → Option Value} {base : Heap} (S : Stat g C tb pr P w K mg base) : ∀ k, GOk g C (callF tb pr k) P w K mg base (3 * k) := by
  intro k
  induction k with
  | zero =>
    refine ⟨S.hK, S.blt, S.cst, S.cle, S.clm, S.fld, fun x ps sh e => ?_, fun c ps sh e => ?_⟩
    · obtain ⟨_, fi, h1, h2⟩ := S.fns x ps sh e
      obtain ⟨ps', sh', nm, qual, params, body, scope, f, fd, N, k1, k2, k3, k4, k5, k6, k7, k8, k9⟩ := h2.ex
      rw [e] at k1
      cases k1
      refine ⟨f, fd, k7, k8, fn_never fun vs H Q E q => ?_, k9⟩
      obtain ⟨_, θ, F, ow, st, as, t, st1, _, _, h, _⟩ := q
      cases (show none = some (t, st1) from h)
    · obtain ⟨f, fd, sl, k1, k2, _⟩ := S.cls c ps sh e
      refine ⟨f, fd, sl, fn_never fun vs H Q E q => ?_, k1, k2⟩
      obtain ⟨_, x, dx, H0, rest, θ, F, ow, st, as, t, st1, _, _, _, _, _, _, _, h, _⟩ := q
      cases (show none = some (t, st1) from h)
  | succ k ih =>
    refine ⟨S.hK, S.blt, S.cst, S.cle, S.clm, S.fld, fun x ps sh e => ?_, fun c ps sh e => ?_⟩
    · obtain ⟨h0, fi, h1, h2⟩ := S.fns x ps sh e
      obtain ⟨ps', sh', f, fd, k1, k2, k3, k4, k5⟩ := fn_lvl ih (h0 k) h1 h2
      rw [e] at k1
      cases k1
      exact ⟨f, fd, k2, k3, k5, k4⟩
    · obtain ⟨f, fd, sl, k1, k2, k3⟩ := S.cls c ps sh e
      exact ⟨f, fd, sl, k3 k ih, k1, k2⟩
end Ev
/-! EvZ3 -/
namespace Ev
open PySem PySem.Spec PyProof.Rows L2
/-! ### the stream's def, the law's def -/
def spS (K : PySem.W.Frag) : Sp := fun vs H Q _ => ∃ (a : Addr) (ns : List Int), vs = [.ref a] ∧ SqL K H a (ns.map V.int) ∧ ∀ l s, H l = none → upd H l (.lst (ns.map V.int)) s = none → Q (.ref s) (upd (upd H l (.lst (ns.map V.int))) s (.lst [.ref l, .int 0, .int 0, .int 19]))
section
variable {P : Program} {w : World} {K : PySem.W.Frag} {mg : Str → Option Value} {base : Heap}
theorem stream_fn {nm qual : Str} {params : Arguments} {scope : Scope} {f : Addr} {fd : FuncData} {p1 p2 p3 p4 p5 p6 p7 p8 : Pos} {j1 j2 j3 k : Nat} (F : FunD K nm qual params [.Return (some (.List [.Call (.Name "list" p1) [.Name "script" p2] [] p3, .Constant (.int 0) j1 p4, .Constant (.int 0) j2 p5, .Constant (.int 19) j3 p6] p7)) p8] scope [] [] f fd)
    (S : FnScope ["script"] ["script"] scope) (hg : glB scope "list" = true) (hv : visB scope "script" = true) (hm : mg "list" = none) : FnOk P w K mg base CX0 (k + 1) f fd ["script"] (spS K) := by
  refine F.ok S (fun vs H Q E q => by obtain ⟨a, ns, rfl, _⟩ := q; rfl) fun cdv A outer s H vs Q E hr hsp => ?_
  obtain ⟨a, ns, rfl, hq, kk⟩ := hsp
  generalize hX : cxOf CX0 P w K mg base ["script"] qual scope f cdv A outer s H E = X
  have e1 : X.env.scope = scope := by rw [← hX]; rfl
  have e2 : X.mg = mg := by rw [← hX]; rfl
  have e3 : X.K = K := by rw [← hX]; rfl
  have e4 : X.N = (["script"] : List Str) := by rw [← hX]; rfl
  have P1 : PE X (.Name "script" p2) (tVar 0) := n_var (N := (["script"] : List Str)) e4 (by decide) (by rw [e1]; exact hv) (by decide)
  have P2 := pe_callTy (X := X) (p := p1) (pos := p3) call_list_of (gl_of (x := "list") (by rw [e1]; exact hg)) (by rw [e2]; exact hm) (by decide +kernel) (pa_cons P1 pa_nil rfl) (by decide) (by decide) rfl rfl
  refine ⟨_, pss_one (ps_ret (pe_lst (pa_cons P2 (pa_cons pe_int (pa_cons pe_int (pa_cons pe_int pa_nil rfl) rfl) rfl) rfl))), ?_⟩
  refine ⟨.ref a, rfl, a, _, rfl, .inl (by rw [e3]; exact hq), fun l hl => ⟨by show 4 ≤ sizeLine; decide, fun s' hs' => kk l s' hl hs'⟩⟩
def spLaw (K : PySem.W.Frag) (ns : List Int) : Sp := fun vs H Q _ => ∃ a, vs = [.ref a] ∧ SqL K H a (ns.map V.int) ∧ ∀ H', Q (.bl true) H'
theorem law_fn {g : Gi} {C : Ctx} {tb : Str × Option Str → Option FnI} {pr : PrimF} {k : Nat} (G : GOk g C (callF tb pr k) P w K mg base (3 * k)) {nm qual : Str} {params : Arguments} {rest : List Stmt} {scope : Scope} {f fs : Addr} {fd fds : FuncData} {N : List Str} {j : Nat} {is : List Is} {ns : List Int} {p1 p2 p3 p4 p5 : Pos}
    (F : FunD K nm qual params (.Assign [.Name "stream" p1] (.Call (.Name "_law_stream" p2) [.Name "script" p3] [] p4) p5 :: rest) scope [] [] f fd) (hS : fnScopeB N ["script"] scope = true)
    (hj : ix N "stream" = some j) (hj0 : 0 < j) (hl : locB scope "stream" = true) (hv : visB scope "script" = true) (h0 : ix N "script" = some 0) (hg : glB scope "_law_stream" = true)
    (hms : mg "_law_stream" = some (.ref fs)) (hkp : PySem.W.keepIn K (.ref fs) = true) (Fs : FnOk P w K mg base CX0 1 fs fds ["script"] (spS K)) (hb : Binds K fds ["script"] [])
    (hc : mapO (compS g N scope 30) rest = some is) {env1 : Env} {st1 : Sst}
    (hrun : exB (callF tb pr k) is ((List.replicate N.length none).set j (some (.fz (.tok 0)))) (some ⟨ns, 0, 0, 19⟩) = some (.rt (.fz (.bl true)), env1, st1)) :
    FnOk P w K mg base CX0 (3 * k + 2) f fd ["script"] (spLaw K ns) := by
  have SC := fnScope_of hS
  refine F.ok SC (fun vs H Q E q => by obtain ⟨a, rfl, _⟩ := q; rfl) fun cdv A outer s H vs Q E hr hsp => ?_
  obtain ⟨a, rfl, hq, kk⟩ := hsp
  have XF := G.xfn (A := A) (outer := outer) (s := s) (H := H) (E := E) (cd := cdv) (f := f) (qual := qual) SC hr
  generalize hX : cxOf CX0 P w K mg base N qual scope f cdv A outer s H E = X at XF
  have e1 : X.env.scope = scope := by rw [← hX]; rfl
  have e2 : X.mg = mg := by rw [← hX]; rfl
  have e3 : X.K = K := by rw [← hX]; rfl
  have e4 : X.N = N := by rw [← hX]; rfl
  have eF : FnOk X.prog X.w X.K X.mg X.base CX0 1 fs fds ["script"] (spS K) := by rw [← hX]; exact Fs
  have eR : Room (3 * k + 1) X.A := by rw [← hX]; exact hr
  have P1 : PE X (.Name "script" p3) (tVar 0) := n_var (N := N) e4 h0 (by rw [e1]; exact hv) (by decide)
  have P2 := pe_call (X := X) (CX := CX0) (p := p2) (pos := p4) (E := fun _ _ _ => False) (dvs := []) (ds := []) eF (eR.mono (by omega)) (gl_of (x := "_law_stream") (by rw [e1]; exact hg)) (by rw [e2]; exact hms) (by rw [e3]; exact hkp) (by rw [e3]; exact hb) .nil (fun _ _ _ _ _ _ _ h => h.elim) (pa_cons P1 pa_nil rfl) (by decide) rfl rfl
  have SB : SBOk C (callF tb pr k) X rest is := b_of (paired_mono (fun s i h => ssnd XF 30 s i (by rw [e1]; exact h)) (mapO_paired hc))
  have hjN : X.N[j]? = some "stream" := by rw [e4]; exact ix_get hj
  have hlN : j < N.length := by rw [e4] at hjN; exact (List.getElem?_eq_some_iff.mp hjN).1
  refine ⟨_, pss_cons (ps_set (by rw [e4]; exact SC.nd) hjN (by rw [e1]; exact loc_of hl) P2 rfl (.inl (XF.fn _))) pss_sem, ?_⟩
  have h0N : 0 < N.length := by omega
  refine ⟨.ref a, ?_, ?_⟩
  · show (L2.start N [V.ref a])[0]? = _
    rfl
  refine ⟨a, ns, rfl, hq, fun l p hl hp => ?_⟩
  have hlp : p ≠ l := fun z => by rw [z, upd_same] at hp; cases hp
  have hpH : H p = none := by rw [upd_ne hlp] at hp; exact hp
  generalize hH2 : upd (upd H l (.lst (ns.map V.int))) p (.lst [.ref l, .int 0, .int 0, .int 19]) = H2
  have a1 : H2 p = some (.lst [.ref l, .int 0, .int 0, .int 19]) := by rw [← hH2]; exact upd_same
  have a2 : H2 l = some (.lst (ns.map V.int)) := by rw [← hH2, upd_ne (Ne.symm hlp)]; exact upd_same
  let θ : Toks := fun n => if n = 0 then some p else none
  let ow : OwF := fun b => if b = p then some .strm else if b = l then some .strm else none
  have ok : Hok θ (fun _ => none) H2 ow (some ⟨ns, 0, 0, 19⟩) := by
    refine ⟨(fun _ _ e => by cases e), (fun _ _ e => by cases e), fun b k' e => ?_, p, l, rfl, hlp, a1, a2, if_pos rfl, ?_⟩
    · have e : (if b = p then some Ow.strm else if b = l then some .strm else none) = some k' := e
      split at e
      · rename_i z; exact ⟨_, by rw [z]; exact a1, fun _ z => by cases z⟩
      · split at e
        · rename_i z; exact ⟨_, by rw [z]; exact a2, fun _ z => by cases z⟩
        · cases e
    · show (if l = p then some Ow.strm else if l = l then some .strm else none) = _
      rw [if_neg (Ne.symm hlp), if_pos rfl]
  have fi : FI C ⟨θ, fun _ => none, H2, ow⟩ θ (fun _ => none) H2 ow (some ⟨ns, 0, 0, 19⟩) ((L2.start N [V.ref a]).set j (some (.ref p))) ((List.replicate N.length none).set j (some (.fz (.tok 0)))) := by
    refine ⟨Stp.refl, ok, ⟨?_, fun i t e => ?_⟩, fun b k' e hk' => ?_⟩
    · rw [List.length_set, List.length_set, List.length_replicate]
      unfold L2.start
      simp
      omega
    · by_cases z : j = i
      · subst z
        rw [List.getElem?_set_self (by rw [List.length_replicate]; exact hlN)] at e
        cases e
        refine ⟨.ref p, ?_, p, rfl, rfl⟩
        rw [List.getElem?_set_self]
        unfold L2.start
        simp
        omega
      · rw [List.getElem?_set_ne z, List.getElem?_replicate] at e
        split at e
        · cases e
        · cases e
    · have e : (if b = p then some Ow.strm else if b = l then some .strm else none) = some k' := e
      split at e
      · cases e; exact absurd rfl hk'
      · split at e
        · cases e; exact absurd rfl hk'
        · cases e
  show SemB X rest _ _ H2
  refine SB _ θ _ H2 ow _ _ _ _ env1 st1 _ fi hrun ?_
  intro v θ' F' H' ow' s' o' r'
  cases (show v = V.bl true from r')
  exact kk H'
end
end Ev
/-! EvH -/
namespace Ev
open PySem PySem.Spec PyProof.Rows L2
/-! ### the head's hook, with one more question to the written part -/
def obsX (ex : PySem.W.Frag → Bool) (fa : List He.Fa) (fn : List He.DefD) (K : PySem.W.Frag) : He.AlD := ((He.obsD fa fn K).1 && ex K, (He.obsD fa fn K).2)
def obsXG (n : Nat) (ex : PySem.W.Frag → Bool) (fa : List He.Fa) (fn : List He.DefD) (g : Addr → Option Obj) : He.AlD := obsX ex fa fn (He.frG g (He.asD g n))
structure SaysX (ex : PySem.W.Frag → Bool) (fa : List He.Fa) (fn : List He.DefD) (K : PySem.W.Frag) : Prop where
  d : He.SaysD fa fn K
  x : ex K = true
theorem saysX_of {ex : PySem.W.Frag → Bool} {fa : List He.Fa} {fn : List He.DefD} {K : PySem.W.Frag} (h : obsX ex fa fn K = He.valD fn) : SaysX ex fa fn K := by
  have h1 : ((He.obsD fa fn K).1 && ex K) = true := congrArg (fun z : He.AlD => z.1) h
  have h2 : (He.obsD fa fn K).2 = fn.map He.DefD.val := congrArg (fun z : He.AlD => z.2) h
  have h1 := Bool.and_eq_true_iff.mp h1
  refine ⟨?_, h1.2⟩
  show He.obsD fa fn K = (true, fn.map He.DefD.val)
  rw [← h2, ← h1.1]
def hookX (n : Nat) (ex : PySem.W.Frag → Bool) (fa : List He.Fa) (fn : List He.DefD) : PySem.W.Hook where
  α := He.AlD
  obs := fun s => obsXG n ex fa fn s.heap.get?
  val := fun _ => He.valD fn
  says := fun _ h => ∃ K : PySem.W.Frag, K.In h ∧ SaysX ex fa fn K
  of := fun _ _ e => ⟨_, He.frG_in, saysX_of e⟩
  keeps := fun _ _ _ ⟨K, hK, c⟩ k => ⟨K, PySem.W.Frag.In.keeps hK k, c⟩
theorem obsXG_eq {n : Nat} {ex : PySem.W.Frag → Bool} {fa : List He.Fa} {fn : List He.DefD} {g : Addr → Option Obj} {s : Shared} (h : ∀ a, g a = s.heap.get? a) : obsXG n ex fa fn g = (hookX n ex fa fn).obs s := by
  have e : g = s.heap.get? := funext h
  rw [e] <;> rfl
/-! ### binding of the shapes -/
theorem ord_pos {α : Type} {n : Nat} : ∀ {ps : List Str} {i : Nat} {o : List Nat}, ordGo n [] i ps = some o → ∀ {us zs : List α}, pickA us o = some zs → i + ps.length = us.length → zs = us.drop i
  | [], i, o, h, us, zs, hp, hl => by
    cases h
    cases hp
    rw [List.drop_eq_nil_of_le (by simp at hl; omega)]
  | p :: ps, i, o, h, us, zs, hp, hl => by
    unfold ordGo at h
    split at h
    · cases h
    · rename_i r e
      split at h
      · cases h
        unfold pickA at hp
        split at hp
        · rename_i d q e1 e2
          cases hp
          have ih := ord_pos e e2 (by rw [List.length_cons] at hl; omega)
          obtain ⟨hi, hd⟩ := List.getElem?_eq_some_iff.mp e1
          rw [List.drop_eq_getElem_cons hi, hd, ih]
        · cases hp
      · simp at h
/-- every call writes all parameters, in their order -/
theorem bindSh_pos {K : PySem.W.Frag} {fd : FuncData} {ps : List Str} {n : Nat} (hn : n = ps.length) (h : ∀ (s : Shared) (us : List Value), us.length = ps.length → BindsTo s fd ⟨us, []⟩ (ps.zip us)) : BindSh K fd ps [(n, [])] := by
  intro m ks o ho s us ws zs X h1 h2 hp
  unfold ordOf at ho
  split at ho
  · rename_i hc
    have hc : (m, ks) = (n, []) := by simpa using hc
    cases hc
    have hw : ws = [] := List.eq_nil_of_length_eq_zero h2
    subst hw
    rw [List.append_nil] at hp
    have e := ord_pos ho hp (by omega)
    rw [List.drop_zero] at e
    subst e
    exact h s zs (by omega)
  · cases ho
theorem bindSh_nil {K : PySem.W.Frag} {fd : FuncData} {ps : List Str} : BindSh K fd ps [] := by
  intro m ks o ho
  unfold ordOf at ho
  split at ho
  · rename_i hc
    simp at hc
  · cases ho
/-- shapes one by one -/
theorem bindSh_cons {K : PySem.W.Frag} {fd : FuncData} {ps : List Str} {n : Nat} {ks : List Str} {sh : List (Nat × List Str)} (h1 : BindSh K fd ps [(n, ks)]) (h2 : BindSh K fd ps sh) : BindSh K fd ps ((n, ks) :: sh) := by
  intro m ks' o ho s us ws zs X l1 l2 hp
  unfold ordOf at ho
  split at ho
  · rename_i hc
    rw [List.contains_cons] at hc
    rcases Bool.or_eq_true_iff.mp hc with hc | hc
    · refine h1 m ks' o ?_ s us ws zs X l1 l2 hp
      unfold ordOf
      rw [if_pos (by rw [List.contains_cons, hc]; rfl)]
      exact ho
    · refine h2 m ks' o ?_ s us ws zs X l1 l2 hp
      unfold ordOf
      rw [if_pos hc]
      exact ho
  · cases ho
/-- one shape, with keywords -/
theorem bindSh_kw {K : PySem.W.Frag} {nm qual : Str} {params : Arguments} {body : List Stmt} {scope : Scope} {f : Addr} {fd : FuncData} {ps : List Str} {n : Nat} {ks : List Str} {o : List Nat} (F : FunD K nm qual params body scope [] [] f fd) (ho : ordGo n ks 0 ps = some o)
    (h : ∀ (kV doc pm : Value) (an : Option Addr) (cdv ct : Value) (us ws zs : List Value), us.length = n → ws.length = ks.length → pickA (us ++ ws) o = some zs → bindArgs (PySem.W.fnOf nm qual params body scope .none kV doc pm an cdv ct) ⟨us, ks.zip ws⟩ = pure (ps.zip zs)) : BindSh K fd ps [(n, ks)] := by
  intro m ks' o' ho' s us ws zs X h1 h2 hp
  unfold ordOf at ho'
  split at ho'
  · rename_i hc
    have hc : (m, ks') = (n, ks) := by simpa using hc
    cases hc
    rw [ho] at ho'
    cases ho'
    obtain ⟨oc, od, dV, kV, doc, pm, an, cdv, ct, osl, rfl, lk, hcd, hD, hK⟩ := F.ex
    rcases hD with ⟨_, rfl⟩ | ⟨e, _⟩
    · exact .of_eq (h kV doc pm an cdv ct us ws zs h1 h2 hp)
    · exact absurd rfl e
  · cases ho'
/-! ### the own classes, asked -/
def clsOkB (K : PySem.W.Frag) (a : Addr) : Bool :=
  He.eqO (PySem.W.findIn K (.ref a) "__class__") (some (some (.builtin "object.__class__"))) &&
  (He.eqO (PySem.W.specialIn K (.builtin "object.__class__") "__get__") (some (some (.builtin "getset_descriptor.__get__"))) &&
  (decide (PySem.W.takesIn K (.builtin "object.__class__") = some true) && decide (PySem.W.mroIn K a (.type "object") = some true)))
def clsEnvB (cs : List Str) (K : PySem.W.Frag) : Bool :=
  (cs.all fun c => clsOkB K (He.ga K c)) && ((cs.all fun c => nTys.all fun n => decide (PySem.W.kitOne K (.type n) (.ref (He.ga K c)) = some false)) &&
  ((cs.all fun c => sTys.all fun n => decide (PySem.W.kitOne K (.ref (He.ga K c)) (.type n) = some false)) &&
  ((cs.all fun c => sTys.all fun n => !(Str.ofString n == c)) && (cs.all fun c => cs.all fun c' => decide (PySem.W.kitOne K (.ref (He.ga K c)) (.ref (He.ga K c')) = some (c' == c))))))
def ctxOf (K : PySem.W.Frag) (w : World) : Ctx := ⟨K, w, fun c => He.ga K c⟩
theorem clsEnv_of {cs : List Str} {K : PySem.W.Frag} {w : World} (h : clsEnvB cs K = true) (hc : ∀ c ∈ cs, Cls K (He.ga K c)) : ClsEnv (ctxOf K w) cs := by
  unfold clsEnvB at h
  simp only [Bool.and_eq_true, List.all_eq_true, decide_eq_true_eq, Bool.not_eq_true'] at h
  obtain ⟨h1, h2, h3, h4, h5⟩ := h
  refine ⟨fun c hcc => ?_, h2, h3, h4, h5⟩
  have q := h1 c hcc
  unfold clsOkB at q
  simp only [Bool.and_eq_true, decide_eq_true_eq] at q
  exact ⟨hc c hcc, He.eqO_ok q.1, He.eqO_ok q.2.1, q.2.2.1, q.2.2.2⟩
end Ev
/-! EvM -/
namespace Ev
open PySem PySem.Spec PyProof.Rows L2
/-! ### running, by what is wanted behind -/
def Rn {α : Type} (o : Option α) (P : α → Prop) : Prop := ∃ a, o = some a ∧ P a
@[simp] theorem rn_some {α : Type} {a : α} {P : α → Prop} : Rn (some a) P ↔ P a := by simp [Rn]
@[simp] theorem rn_none {α : Type} {P : α → Prop} : Rn (none : Option α) P ↔ False := by simp [Rn]
theorem Rn.mono {α : Type} {o : Option α} {P Q : α → Prop} (h : Rn o P) (q : ∀ a, P a → Q a) : Rn o Q := let ⟨a, e, p⟩ := h; ⟨a, e, q a p⟩
theorem rn_ite {α : Type} {c : Prop} [Decidable c] {a : Option α} {P : α → Prop} : Rn (if c then a else none) P ↔ c ∧ Rn a P := by
  by_cases h : c <;> simp [h]
def isNonD (d : D) : Bool := match d with
  | .non => true
  | _ => false
@[simp] theorem isNon_non : isNonD .non = true := rfl
@[simp] theorem isNon_bl {b : Bool} : isNonD (.bl b) = false := rfl
@[simp] theorem isNon_int {b : Int} : isNonD (.int b) = false := rfl
@[simp] theorem isNon_str {b : Str} : isNonD (.str b) = false := rfl
@[simp] theorem isNon_lst {b : List D} : isNonD (.lst b) = false := rfl
@[simp] theorem isNon_tup {b : List D} : isNonD (.tup b) = false := rfl
@[simp] theorem isNon_dct {b : List (D × D)} : isNonD (.dct b) = false := rfl
@[simp] theorem isNon_obj {c : Str} {b : List (Str × D)} : isNonD (.obj c b) = false := rfl
def onB (d : D) (t f : Prop) : Prop := match d with
  | .bl true => t
  | .bl false => f
  | _ => False
@[simp] theorem onB_bl {b : Bool} {t f : Prop} : onB (.bl b) t f ↔ (b = true → t) ∧ (b = false → f) := by cases b <;> simp [onB]
section
variable {cf : CallF} {env : Env} {st : Sst}
theorem rn_ifn {α : Type} {c : Bool} {a : α} {P : α → Prop} : Rn (if c = true then some a else none) P ↔ c = true ∧ P a := by
  cases c <;> simp
/-- what follows a value that decides -/
def AndS (cf : CallF) (env : Env) (b : Ir) (P : D × Sst → Prop) : D × Sst → Prop := fun p => onB p.1 (Rn (evI cf env b p.2) P) (P (.bl false, p.2))
def OrS (cf : CallF) (env : Env) (b : Ir) (P : D × Sst → Prop) : D × Sst → Prop := fun p => onB p.1 (P (.bl true, p.2)) (Rn (evI cf env b p.2) P)
def NotS (P : D × Sst → Prop) : D × Sst → Prop := fun p => onB p.1 (P (.bl false, p.2)) (P (.bl true, p.2))
def IteS (cf : CallF) (env : Env) (a b : Ir) (P : D × Sst → Prop) : D × Sst → Prop := fun p => onB p.1 (Rn (evI cf env a p.2) P) (Rn (evI cf env b p.2) P)
def TsS (cf : CallF) (env : Env) (r : List Ir) (P : Bool × Sst → Prop) : D × Sst → Prop := fun p => onB p.1 (Rn (evT cf env r p.2) P) (P (false, p.2))
@[simp] theorem andS {b : Ir} {P : D × Sst → Prop} {c : Bool} : AndS cf env b P (.bl c, st) ↔ (c = true → Rn (evI cf env b st) P) ∧ (c = false → P (.bl false, st)) := onB_bl
@[simp] theorem orS {b : Ir} {P : D × Sst → Prop} {c : Bool} : OrS cf env b P (.bl c, st) ↔ (c = true → P (.bl true, st)) ∧ (c = false → Rn (evI cf env b st) P) := onB_bl
@[simp] theorem notS {P : D × Sst → Prop} {c : Bool} : NotS P (.bl c, st) ↔ P (.bl (!c), st) := by
  cases c <;> simp [NotS]
@[simp] theorem iteS {a b : Ir} {P : D × Sst → Prop} {c : Bool} : IteS cf env a b P (.bl c, st) ↔ (c = true → Rn (evI cf env a st) P) ∧ (c = false → Rn (evI cf env b st) P) := onB_bl
@[simp] theorem tsS {r : List Ir} {P : Bool × Sst → Prop} {c : Bool} : TsS cf env r P (.bl c, st) ↔ (c = true → Rn (evT cf env r st) P) ∧ (c = false → P (false, st)) := onB_bl
@[simp] theorem rn_v {i : Nat} {P : D × Sst → Prop} : Rn (evI cf env (.v i) st) P ↔ Rn (useV env i) fun d => P (d, st) := by
  unfold evI
  cases useV env i <;> simp
@[simp] theorem rn_bv {i : Nat} {r : Option (D × Sst)} {P : D × Sst → Prop} : Rn (brw env (.v i) st r) P ↔ Rn (lookV env i) fun d => P (d, st) := by
  rw [show brw env (.v i) st r = (match lookV env i with
    | some d => some (d, st)
    | none => none) from rfl]
  generalize lookV env i = o
  cases o <;> simp
@[simp] theorem rn_k {d : D} {P : D × Sst → Prop} : Rn (evI cf env (.k d) st) P ↔ P (d, st) := by
  unfold evI; simp
@[simp] theorem rn_lst {es : List (Bool × Ir)} {P : D × Sst → Prop} : Rn (evI cf env (.lst es) st) P ↔ Rn (evS cf env es st) fun p => fits p.1.length = true ∧ P (.lst p.1, p.2) := by
  conv => lhs; rw [evI]
  rcases evS cf env es st with _ | ⟨x, s1⟩ <;> simp [rn_ifn]
@[simp] theorem rn_tup {es : List (Bool × Ir)} {P : D × Sst → Prop} : Rn (evI cf env (.tup es) st) P ↔ Rn (evS cf env es st) fun p => fits p.1.length = true ∧ P (.tup p.1, p.2) := by
  conv => lhs; rw [evI]
  rcases evS cf env es st with _ | ⟨x, s1⟩ <;> simp [rn_ifn]
@[simp] theorem rn_dct {es : List (Ir × Ir)} {P : D × Sst → Prop} : Rn (evI cf env (.dct es) st) P ↔ Rn (evKV cf env es st) fun p => Rn (dctOf [] p.1 p.2.1) fun kvs => P (.dct kvs, p.2.2) := by
  conv => lhs; rw [evI]
  rcases evKV cf env es st with _ | ⟨x, y, s1⟩
  · simp
  · simp only [rn_some]
    rcases dctOf [] x y with _ | z <;> simp
@[simp] theorem rn_bin {op : Operator} {a b : Ir} {P : D × Sst → Prop} : Rn (evI cf env (.bin op a b) st) P ↔ Rn (brw env a st (evI cf env a st)) fun p => Rn (brw env b p.2 (evI cf env b p.2)) fun q => Rn (binD op p.1 q.1) fun z => P (z, q.2) := by
  conv => lhs; rw [evI]
  rcases brw env a st (evI cf env a st) with _ | ⟨x, s1⟩
  · simp
  · simp only [rn_some]
    rcases brw env b s1 (evI cf env b s1) with _ | ⟨y, s2⟩
    · simp
    · simp only [rn_some]
      rcases binD op x y with _ | z <;> simp
@[simp] theorem rn_cmp {op : CmpOp} {a b : Ir} {P : D × Sst → Prop} : Rn (evI cf env (.cmp op a b) st) P ↔ Rn (brw env a st (evI cf env a st)) fun p => Rn (brw env b p.2 (evI cf env b p.2)) fun q => Rn (cmpD op p.1 q.1) fun z => P (.bl z, q.2) := by
  conv => lhs; rw [evI]
  rcases brw env a st (evI cf env a st) with _ | ⟨x, s1⟩
  · simp
  · simp only [rn_some]
    rcases brw env b s1 (evI cf env b s1) with _ | ⟨y, s2⟩
    · simp
    · simp only [rn_some]
      rcases cmpD op x y with _ | z <;> simp
@[simp] theorem rn_chain {op op' : CmpOp} {a b c : Ir} {P : D × Sst → Prop} : Rn (evI cf env (.chain op op' a b c) st) P ↔ Rn (brw env a st (evI cf env a st)) fun p => Rn (brw env b p.2 (evI cf env b p.2)) fun q => Rn (cmpD op p.1 q.1) fun z => (z = false → P (.bl false, q.2)) ∧ (z = true → Rn (brw env c q.2 (evI cf env c q.2)) fun w => Rn (cmpD op' q.1 w.1) fun u => P (.bl u, w.2)) := by
  conv => lhs; rw [evI]
  rcases brw env a st (evI cf env a st) with _ | ⟨x, s1⟩
  · simp
  · simp only [rn_some]
    rcases brw env b s1 (evI cf env b s1) with _ | ⟨y, s2⟩
    · simp
    · simp only [rn_some]
      rcases cmpD op x y with _ | z
      · simp
      · cases z with
        | false => simp
        | true =>
          simp
          rcases brw env c s2 (evI cf env c s2) with _ | ⟨z, s3⟩
          · simp
          · simp only [rn_some]
            rcases cmpD op' y z with _ | w <;> simp
@[simp] theorem rn_isN {a : Ir} {P : D × Sst → Prop} : Rn (evI cf env (.isN a) st) P ↔ Rn (brw env a st (evI cf env a st)) fun p => P (.bl (isNonD p.1), p.2) := by
  conv => lhs; rw [evI]
  rcases brw env a st (evI cf env a st) with _ | ⟨x, s1⟩
  · simp
  · cases x <;> simp [isNonD]
@[simp] theorem rn_notN {a : Ir} {P : D × Sst → Prop} : Rn (evI cf env (.notN a) st) P ↔ Rn (brw env a st (evI cf env a st)) fun p => P (.bl (!isNonD p.1), p.2) := by
  conv => lhs; rw [evI]
  rcases brw env a st (evI cf env a st) with _ | ⟨x, s1⟩
  · simp
  · cases x <;> simp [isNonD]
@[simp] theorem rn_and {a b : Ir} {P : D × Sst → Prop} : Rn (evI cf env (.and a b) st) P ↔ Rn (evI cf env a st) (AndS cf env b P) := by
  conv => lhs; rw [evI]
  rcases evI cf env a st with _ | ⟨x, s1⟩
  · simp
  · cases x with
    | bl b => cases b <;> simp
    | _ => simp [onB, AndS, OrS, NotS, IteS, TsS]
@[simp] theorem rn_or {a b : Ir} {P : D × Sst → Prop} : Rn (evI cf env (.or a b) st) P ↔ Rn (evI cf env a st) (OrS cf env b P) := by
  conv => lhs; rw [evI]
  rcases evI cf env a st with _ | ⟨x, s1⟩
  · simp
  · cases x with
    | bl b => cases b <;> simp
    | _ => simp [onB, AndS, OrS, NotS, IteS, TsS]
@[simp] theorem rn_not {a : Ir} {P : D × Sst → Prop} : Rn (evI cf env (.not a) st) P ↔ Rn (evI cf env a st) (NotS P) := by
  conv => lhs; rw [evI]
  rcases evI cf env a st with _ | ⟨x, s1⟩
  · simp
  · cases x with
    | bl b => cases b <;> simp
    | _ => simp [onB, AndS, OrS, NotS, IteS, TsS]
@[simp] theorem rn_itE {c a b : Ir} {P : D × Sst → Prop} : Rn (evI cf env (.ite c a b) st) P ↔ Rn (evI cf env c st) (IteS cf env a b P) := by
  conv => lhs; rw [evI]
  rcases evI cf env c st with _ | ⟨x, s1⟩
  · simp
  · cases x with
    | bl b => cases b <;> simp
    | _ => simp [onB, AndS, OrS, NotS, IteS, TsS]
def asI (d : D) : Option Int := match d with
  | .int i => some i
  | _ => none
@[simp] theorem asI_int {i : Int} : asI (.int i) = some i := rfl
@[simp] theorem rn_neg {a : Ir} {P : D × Sst → Prop} : Rn (evI cf env (.neg a) st) P ↔ Rn (evI cf env a st) fun p => Rn (asI p.1) fun i => P (.int (-i), p.2) := by
  conv => lhs; rw [evI]
  rcases evI cf env a st with _ | ⟨x, s1⟩
  · simp
  · cases x <;> simp [asI]
@[simp] theorem rn_sub {a i : Ir} {P : D × Sst → Prop} : Rn (evI cf env (.sub a i) st) P ↔ Rn (brw env a st (evI cf env a st)) fun p => Rn (evI cf env i p.2) fun q => Rn (subS q.2 p.1 q.1) fun z => P (z, q.2) := by
  conv => lhs; rw [evI]
  rcases brw env a st (evI cf env a st) with _ | ⟨x, s1⟩
  · simp
  · simp only [rn_some]
    rcases evI cf env i s1 with _ | ⟨y, s2⟩
    · simp
    · simp only [rn_some]
      rcases subS s2 x y with _ | z <;> simp
@[simp] theorem rn_cut {a : Ir} {lo hi : Option Ir} {P : D × Sst → Prop} : Rn (evI cf env (.cut a lo hi) st) P ↔ Rn (brw env a st (evI cf env a st)) fun p => Rn (evO cf env lo p.2) fun q => Rn (evO cf env hi q.2) fun r => Rn (cutD p.1 q.1 r.1) fun z => P (z, r.2) := by
  conv => lhs; rw [evI]
  rcases brw env a st (evI cf env a st) with _ | ⟨x, s1⟩
  · simp
  · simp only [rn_some]
    rcases evO cf env lo s1 with _ | ⟨y, s2⟩
    · simp
    · simp only [rn_some]
      rcases evO cf env hi s2 with _ | ⟨y2, s3⟩
      · simp
      · simp only [rn_some]
        rcases cutD x y y2 with _ | z <;> simp
@[simp] theorem rn_O0 {P : Option Int × Sst → Prop} : Rn (evO cf env none st) P ↔ P (none, st) := by
  unfold evO; simp
@[simp] theorem rn_O1 {e : Ir} {P : Option Int × Sst → Prop} : Rn (evO cf env (some e) st) P ↔ Rn (evI cf env e st) fun p => Rn (asI p.1) fun i => P (some i, p.2) := by
  conv => lhs; rw [evO]
  rcases evI cf env e st with _ | ⟨x, s1⟩
  · simp
  · cases x <;> simp [asI]
def fldD (d : D) (f : Str) (cs : List Str) : Option D := match d with
  | .obj c fs => if cs.contains c then fs.lookup f else none
  | _ => none
@[simp] theorem fldD_obj {c f : Str} {fs : List (Str × D)} {cs : List Str} : fldD (.obj c fs) f cs = if cs.contains c = true then fs.lookup f else none := rfl
@[simp] theorem rn_fld {a : Ir} {f : Str} {cs : List Str} {P : D × Sst → Prop} : Rn (evI cf env (.fld a f cs) st) P ↔ Rn (brw env a st (evI cf env a st)) fun p => Rn (fldD p.1 f cs) fun d => P (d, p.2) := by
  conv => lhs; rw [evI]
  rcases brw env a st (evI cf env a st) with _ | ⟨x, s1⟩
  · simp
  · cases x with
    | obj c fs =>
      simp only [rn_some, fldD_obj]
      split
      · rcases fs.lookup f with _ | d <;> simp
      · simp
    | _ => simp [fldD]
@[simp] theorem rn_call {g : Str} {as : List Ir} {ord : List Nat} {P : D × Sst → Prop} : Rn (evI cf env (.call g as ord) st) P ↔ Rn (evL cf env as st) fun p => Rn (pickA p.1 ord) fun ps => Rn (cf (g, none) ps p.2) fun q => P (q.1.er, q.2) := by
  conv => lhs; rw [evI]
  rcases evL cf env as st with _ | ⟨x, s1⟩
  · simp
  · simp only [rn_some]
    rcases pickA x ord with _ | ps
    · simp
    · simp only [rn_some]
      rcases cf (g, none) ps s1 with _ | ⟨t, s2⟩ <;> simp
@[simp] theorem rn_new {c : Str} {as : List Ir} {P : D × Sst → Prop} : Rn (evI cf env (.new c as) st) P ↔ Rn (evL cf env as st) fun p => Rn (cf (c, some "__init__") p.1 p.2) fun q => P (q.1.er, q.2) := by
  conv => lhs; rw [evI]
  rcases evL cf env as st with _ | ⟨x, s1⟩
  · simp
  · simp only [rn_some]
    rcases cf (c, some "__init__") x s1 with _ | ⟨t, s2⟩ <;> simp
@[simp] theorem rn_bi {b : Bi} {as : List Ir} {P : D × Sst → Prop} : Rn (evI cf env (.bi b as) st) P ↔ Rn (evLB cf env as st) fun p => Rn (biD b p.1) fun d => P (d, p.2) := by
  conv => lhs; rw [evI]
  rcases evLB cf env as st with _ | ⟨x, s1⟩
  · simp
  · simp only [rn_some]
    rcases biD b x with _ | d <;> simp
@[simp] theorem rn_isi {a : Ir} {ts cs : List Str} {P : D × Sst → Prop} : Rn (evI cf env (.isi a ts cs) st) P ↔ Rn (brw env a st (evI cf env a st)) fun p => Rn (isiAny cs p.1 ts) fun b => P (.bl b, p.2) := by
  conv => lhs; rw [evI]
  rcases brw env a st (evI cf env a st) with _ | ⟨x, s1⟩
  · simp
  · simp only [rn_some]
    rcases isiAny cs x ts with _ | d <;> simp
@[simp] theorem rn_join {s a : Ir} {P : D × Sst → Prop} : Rn (evI cf env (.join s a) st) P ↔ Rn (evI cf env s st) fun p => Rn (brw env a p.2 (evI cf env a p.2)) fun q => Rn (joinD p.1 q.1) fun d => P (d, q.2) := by
  conv => lhs; rw [evI]
  rcases evI cf env s st with _ | ⟨x, s1⟩
  · simp
  · simp only [rn_some]
    rcases brw env a s1 (evI cf env a s1) with _ | ⟨y, s2⟩
    · simp
    · simp only [rn_some]
      rcases joinD x y with _ | d <;> simp
@[simp] theorem rn_lc {own : List Nat} {tg : Tg} {im : Im} {its ifs : List Ir} {elt : Ir} {P : D × Sst → Prop} : Rn (evI cf env (.lc own tg im its ifs elt) st) P ↔ Rn (evLB cf env its st) fun p => Rn (itD im p.1) fun xs =>
    Rn (lcGo (fun d => bindT tg d (wipeE env own)) (fun env' s => evT cf env' ifs s) (fun env' s => evI cf env' elt s) xs p.2) fun q => fits q.1.length = true ∧ P (.lst q.1, q.2) := by
  conv => lhs; rw [evI]
  rcases evLB cf env its st with _ | ⟨x, s1⟩
  · simp
  · simp only [rn_some]
    rcases itD im x with _ | xs
    · simp
    · simp only [rn_some]
      rcases lcGo (fun d => bindT tg d (wipeE env own)) (fun env' s => evT cf env' ifs s) (fun env' s => evI cf env' elt s) xs s1 with _ | ⟨rs, s2⟩
      · simp
      · simp [rn_ifn]
@[simp] theorem rn_dc {own : List Nat} {tg : Tg} {im : Im} {its ifs : List Ir} {ke ve : Ir} {P : D × Sst → Prop} : Rn (evI cf env (.dc own tg im its ifs ke ve) st) P ↔ Rn (evLB cf env its st) fun p => Rn (itD im p.1) fun xs =>
    Rn (dcGo (fun d => bindT tg d (wipeE env own)) (fun env' s => evT cf env' ifs s) (fun env' s => evI cf env' ke s) (fun env' s => evI cf env' ve s) xs [] p.2) fun q => P (.dct q.1, q.2) := by
  conv => lhs; rw [evI]
  rcases evLB cf env its st with _ | ⟨x, s1⟩
  · simp
  · simp only [rn_some]
    rcases itD im x with _ | xs
    · simp
    · simp only [rn_some]
      rcases dcGo (fun d => bindT tg d (wipeE env own)) (fun env' s => evT cf env' ifs s) (fun env' s => evI cf env' ke s) (fun env' s => evI cf env' ve s) xs [] s1 with _ | ⟨rs, s2⟩ <;> simp
/-! lists of expressions -/
@[simp] theorem rn_S0 {P : List D × Sst → Prop} : Rn (evS cf env [] st) P ↔ P ([], st) := by
  unfold evS; simp
@[simp] theorem rn_S1 {e : Ir} {r : List (Bool × Ir)} {P : List D × Sst → Prop} : Rn (evS cf env ((false, e) :: r) st) P ↔ Rn (evI cf env e st) fun p => Rn (evS cf env r p.2) fun q => P (p.1 :: q.1, q.2) := by
  conv => lhs; rw [evS]
  rcases evI cf env e st with _ | ⟨x, s1⟩
  · simp
  · simp only [rn_some]
    rcases evS cf env r s1 with _ | ⟨y, s2⟩ <;> simp
@[simp] theorem rn_S2 {e : Ir} {r : List (Bool × Ir)} {P : List D × Sst → Prop} : Rn (evS cf env ((true, e) :: r) st) P ↔ Rn (brw env e st (evI cf env e st)) fun p => Rn (seqOf p.1) fun xs => Rn (evS cf env r p.2) fun q => P (xs ++ q.1, q.2) := by
  conv => lhs; rw [evS]
  rcases brw env e st (evI cf env e st) with _ | ⟨x, s1⟩
  · simp
  · simp only [rn_some]
    rcases seqOf x with _ | xs
    · simp
    · simp only [rn_some]
      rcases evS cf env r s1 with _ | ⟨y, s2⟩ <;> simp
@[simp] theorem rn_L0 {P : List D × Sst → Prop} : Rn (evL cf env [] st) P ↔ P ([], st) := by
  unfold evL; simp
@[simp] theorem rn_L1 {e : Ir} {r : List Ir} {P : List D × Sst → Prop} : Rn (evL cf env (e :: r) st) P ↔ Rn (evI cf env e st) fun p => Rn (evL cf env r p.2) fun q => P (p.1 :: q.1, q.2) := by
  conv => lhs; rw [evL]
  rcases evI cf env e st with _ | ⟨x, s1⟩
  · simp
  · simp only [rn_some]
    rcases evL cf env r s1 with _ | ⟨y, s2⟩ <;> simp
@[simp] theorem rn_B0 {P : List D × Sst → Prop} : Rn (evLB cf env [] st) P ↔ P ([], st) := by
  unfold evLB; simp
@[simp] theorem rn_B1 {e : Ir} {r : List Ir} {P : List D × Sst → Prop} : Rn (evLB cf env (e :: r) st) P ↔ Rn (brw env e st (evI cf env e st)) fun p => Rn (evLB cf env r p.2) fun q => P (p.1 :: q.1, q.2) := by
  conv => lhs; rw [evLB]
  rcases brw env e st (evI cf env e st) with _ | ⟨x, s1⟩
  · simp
  · simp only [rn_some]
    rcases evLB cf env r s1 with _ | ⟨y, s2⟩ <;> simp
@[simp] theorem rn_KV0 {P : List D × List D × Sst → Prop} : Rn (evKV cf env [] st) P ↔ P ([], [], st) := by
  unfold evKV; simp
@[simp] theorem rn_KV1 {k v : Ir} {r : List (Ir × Ir)} {P : List D × List D × Sst → Prop} : Rn (evKV cf env ((k, v) :: r) st) P ↔ Rn (evI cf env k st) fun p => Rn (evI cf env v p.2) fun w => Rn (evKV cf env r w.2) fun q => P (p.1 :: q.1, w.1 :: q.2.1, q.2.2) := by
  conv => lhs; rw [evKV]
  rcases evI cf env k st with _ | ⟨x, s1⟩
  · simp
  · simp only [rn_some]
    rcases evI cf env v s1 with _ | ⟨y, s2⟩
    · simp
    · simp only [rn_some]
      rcases evKV cf env r s2 with _ | ⟨xs, ys, s3⟩ <;> simp
@[simp] theorem rn_T0 {P : Bool × Sst → Prop} : Rn (evT cf env [] st) P ↔ P (true, st) := by
  unfold evT; simp
@[simp] theorem rn_T1 {e : Ir} {r : List Ir} {P : Bool × Sst → Prop} : Rn (evT cf env (e :: r) st) P ↔ Rn (evI cf env e st) (TsS cf env r P) := by
  conv => lhs; rw [evT]
  rcases evI cf env e st with _ | ⟨x, s1⟩
  · simp
  · cases x with
    | bl b => cases b <;> simp
    | _ => simp [onB, AndS, OrS, NotS, IteS, TsS]
end
/-! looked at: what is no name is just evaluated -/
section
variable {env : Env} {st : Sst} {r : Option (D × Sst)}
theorem brw_notv {e : Ir} (h : ∀ i, e ≠ .v i) : brw env e st r = r := by
  cases e <;> first | rfl | exact absurd rfl (h _)
@[simp] theorem brw_k {d : D} : brw env (.k d) st r = r := rfl
@[simp] theorem brw_lst {a : List (Bool × Ir)} : brw env (.lst a) st r = r := rfl
@[simp] theorem brw_tup {a : List (Bool × Ir)} : brw env (.tup a) st r = r := rfl
@[simp] theorem brw_dct {a : List (Ir × Ir)} : brw env (.dct a) st r = r := rfl
@[simp] theorem brw_bin {op : Operator} {a b : Ir} : brw env (.bin op a b) st r = r := rfl
@[simp] theorem brw_cmp {op : CmpOp} {a b : Ir} : brw env (.cmp op a b) st r = r := rfl
@[simp] theorem brw_chain {op op' : CmpOp} {a b c : Ir} : brw env (.chain op op' a b c) st r = r := rfl
@[simp] theorem brw_isN {a : Ir} : brw env (.isN a) st r = r := rfl
@[simp] theorem brw_notN {a : Ir} : brw env (.notN a) st r = r := rfl
@[simp] theorem brw_and {a b : Ir} : brw env (.and a b) st r = r := rfl
@[simp] theorem brw_or {a b : Ir} : brw env (.or a b) st r = r := rfl
@[simp] theorem brw_nt {a : Ir} : brw env (.not a) st r = r := rfl
@[simp] theorem brw_ite {a b c : Ir} : brw env (.ite a b c) st r = r := rfl
@[simp] theorem brw_neg {a : Ir} : brw env (.neg a) st r = r := rfl
@[simp] theorem brw_sub {a b : Ir} : brw env (.sub a b) st r = r := rfl
@[simp] theorem brw_cut {a : Ir} {b c : Option Ir} : brw env (.cut a b c) st r = r := rfl
@[simp] theorem brw_fld {a : Ir} {f : Str} {cs : List Str} : brw env (.fld a f cs) st r = r := rfl
@[simp] theorem brw_call {g : Str} {as : List Ir} {o : List Nat} : brw env (.call g as o) st r = r := rfl
@[simp] theorem brw_new {g : Str} {as : List Ir} : brw env (.new g as) st r = r := rfl
@[simp] theorem brw_bi {b : Bi} {as : List Ir} : brw env (.bi b as) st r = r := rfl
@[simp] theorem brw_isi {a : Ir} {ts cs : List Str} : brw env (.isi a ts cs) st r = r := rfl
@[simp] theorem brw_spop {i : Nat} : brw env (.spop i) st r = r := rfl
@[simp] theorem brw_ncells {i : Nat} : brw env (.ncells i) st r = r := rfl
@[simp] theorem brw_join {a b : Ir} : brw env (.join a b) st r = r := rfl
@[simp] theorem brw_lc {own : List Nat} {tg : Tg} {im : Im} {its ifs : List Ir} {elt : Ir} : brw env (.lc own tg im its ifs elt) st r = r := rfl
@[simp] theorem brw_dc {own : List Nat} {tg : Tg} {im : Im} {its ifs : List Ir} {ke ve : Ir} : brw env (.dc own tg im its ifs ke ve) st r = r := rfl
end
/-! ### statements -/
def frzG (is : List Nat) : Nat → Env → Env
  | _, [] => []
  | i, t :: r => (if is.contains i then t.map fzT else t) :: frzG is (i + 1) r
theorem frzG_eq (is : List Nat) : ∀ (env : Env) (k : Nat), frzG is k env = env.mapIdx fun i t => if is.contains (k + i) then t.map fzT else t
  | [], _ => rfl
  | t :: r, k => by
    rw [List.mapIdx_cons]
    show (if is.contains k then t.map fzT else t) :: frzG is (k + 1) r = _
    rw [frzG_eq is r (k + 1)]
    congr 1
    congr 1
    funext i t
    rw [show k + 1 + i = k + (i + 1) from by omega]
theorem length_frz {is : List Nat} {env : Env} : (frz is env).length = env.length := by unfold frz; rw [List.length_mapIdx]
theorem frz_eq (is : List Nat) (env : Env) : frz is env = frzG is 0 env := by
  rw [frzG_eq]
  unfold frz
  congr 1
  funext i t
  rw [Nat.zero_add]
@[simp] theorem frzG_nil {is : List Nat} {i : Nat} : frzG is i [] = [] := rfl
@[simp] theorem frzG_cons {is : List Nat} {i : Nat} {t : Option T} {r : Env} : frzG is i (t :: r) = (if is.contains i then t.map fzT else t) :: frzG is (i + 1) r := rfl
@[simp] theorem fzT_eq {t : T} : fzT t = .fz t.er := rfl
@[simp] theorem er_fz {d : D} : (T.fz d).er = d := rfl
@[simp] theorem er_ol {d : List D} : (T.ol d).er = .lst d := rfl
@[simp] theorem er_od {d : List (D × D)} : (T.od d).er = .dct d := rfl
def wipG (own : List Nat) : Nat → Env → Env
  | _, [] => []
  | i, t :: r => (if own.contains i then none else t) :: wipG own (i + 1) r
theorem wipG_eq (own : List Nat) : ∀ (env : Env) (k : Nat), wipG own k env = env.mapIdx fun i t => if own.contains (k + i) then none else t
  | [], _ => rfl
  | t :: r, k => by
    rw [List.mapIdx_cons]
    show (if own.contains k then none else t) :: wipG own (k + 1) r = _
    rw [wipG_eq own r (k + 1)]
    congr 1
    congr 1
    funext i t
    rw [show k + 1 + i = k + (i + 1) from by omega]
@[simp] theorem wip_eq (own : List Nat) (env : Env) : wipeE env own = wipG own 0 env := by
  rw [wipG_eq]
  unfold wipeE
  congr 1
  funext i t
  rw [Nat.zero_add]
@[simp] theorem wipG_nil {is : List Nat} {i : Nat} : wipG is i [] = [] := rfl
@[simp] theorem wipG_cons {is : List Nat} {i : Nat} {t : Option T} {r : Env} : wipG is i (t :: r) = (if is.contains i then none else t) :: wipG is (i + 1) r := rfl
theorem lookV_at {env : Env} {i : Nat} : lookV env i = match env[i]? with
  | some (some t) => some t.er
  | _ => none := rfl
theorem useV_at {env : Env} {i : Nat} : useV env i = match env[i]? with
  | some (some (.fz d)) => some d
  | _ => none := rfl
@[simp] theorem lookV_0 {t : T} {r : Env} : lookV (some t :: r) 0 = some t.er := rfl
@[simp] theorem lookV_s {t : Option T} {r : Env} {i : Nat} : lookV (t :: r) (i + 1) = lookV r i := rfl
@[simp] theorem useV_0 {d : D} {r : Env} : useV (some (.fz d) :: r) 0 = some d := rfl
@[simp] theorem useV_s {t : Option T} {r : Env} {i : Nat} : useV (t :: r) (i + 1) = useV r i := rfl
@[simp] theorem getL_0 {d : List D} {r : Env} : getL (some (.ol d) :: r) 0 = some d := rfl
@[simp] theorem getL_f {d : D} {r : Env} : getL (some (.fz d) :: r) 0 = none := rfl
@[simp] theorem getL_d {d : List (D × D)} {r : Env} : getL (some (.od d) :: r) 0 = none := rfl
@[simp] theorem getL_s {t : Option T} {r : Env} {i : Nat} : getL (t :: r) (i + 1) = getL r i := rfl
@[simp] theorem getD_0 {d : List (D × D)} {r : Env} : getD' (some (.od d) :: r) 0 = some d := rfl
@[simp] theorem getD_f {d : D} {r : Env} : getD' (some (.fz d) :: r) 0 = none := rfl
@[simp] theorem getD_l {d : List D} {r : Env} : getD' (some (.ol d) :: r) 0 = none := rfl
@[simp] theorem getD_s {t : Option T} {r : Env} {i : Nat} : getD' (t :: r) (i + 1) = getD' r i := rfl
def setTg (tg : Tg) (t : T) (env : Env) : Option Env := match tg with
  | .n i => if i < env.length then some (env.set i (some t)) else none
  | tg => bindT tg t.er env
@[simp] theorem setTg_n {i : Nat} {t : T} {env : Env} : setTg (.n i) t env = if i < env.length then some (env.set i (some t)) else none := rfl
@[simp] theorem setTg_t {ts : List Tg} {t : T} {env : Env} : setTg (.t ts) t env = bindT (.t ts) t.er env := rfl
@[simp] theorem bindT_n {i : Nat} {d : D} {env : Env} : bindT (.n i) d env = if i < env.length then some (env.set i (some (.fz d))) else none := by unfold bindT; rfl
@[simp] theorem bindT_t {ts : List Tg} {ds : List D} {env : Env} : bindT (.t ts) (.tup ds) env = if ds.length = ts.length then bindTs ts ds env else none := by unfold bindT; rfl
@[simp] theorem bindTs_0 {ds : List D} {env : Env} : bindTs [] ds env = some env := by unfold bindTs; rfl
@[simp] theorem bindTs_1 {t : Tg} {ts : List Tg} {d : D} {ds : List D} {env : Env} {P : Env → Prop} : Rn (bindTs (t :: ts) (d :: ds) env) P ↔ Rn (bindT t d env) fun e => Rn (bindTs ts ds e) P := by
  conv => lhs; rw [bindTs]
  cases bindT t d env <;> simp
def callI (e : Ir) : Bool := match e with
  | .call _ _ _ => true
  | _ => false
section
variable {cf : CallF} {env : Env} {st : Sst}
@[simp] theorem rn_topC {g : Str} {as : List Ir} {ord : List Nat} {P : T × Sst → Prop} : Rn (evTop cf env (.call g as ord) st) P ↔ Rn (evL cf env as st) fun p => Rn (pickA p.1 ord) fun ps => Rn (cf (g, none) ps p.2) P := by
  unfold evTop
  simp only
  rcases evL cf env as st with _ | ⟨x, s1⟩
  · simp
  · simp only [rn_some]
    rcases pickA x ord with _ | ps <;> simp
theorem rn_top {e : Ir} {P : T × Sst → Prop} (h : callI e = false) : Rn (evTop cf env e st) P ↔ Rn (evI cf env e st) fun p => P (ownT e p.1, p.2) := by
  have : evTop cf env e st = match evI cf env e st with
    | some (d, st1) => some (ownT e d, st1)
    | none => none := by
    unfold evTop
    split
    · cases h
    · rfl
  rw [this]
  rcases evI cf env e st with _ | ⟨x, s1⟩ <;> simp
@[simp] theorem rn_tops0 {P : List T × Sst → Prop} : Rn (evTops cf env [] st) P ↔ P ([], st) := by
  unfold evTops; simp
@[simp] theorem rn_tops1 {e : Ir} {r : List Ir} {P : List T × Sst → Prop} : Rn (evTops cf env (e :: r) st) P ↔ Rn (evTop cf env e st) fun p => Rn (evTops cf env r p.2) fun q => P (p.1 :: q.1, q.2) := by
  conv => lhs; rw [evTops]
  rcases evTop cf env e st with _ | ⟨x, s1⟩
  · simp
  · simp only [rn_some]
    rcases evTops cf env r s1 with _ | ⟨y, s2⟩ <;> simp
@[simp] theorem setAll_0 : setAll env [] [] = some env := rfl
@[simp] theorem setAll_1 {x : Nat} {xs : List Nat} {t : T} {ts : List T} : setAll env (x :: xs) (t :: ts) = if x < env.length then setAll (env.set x (some t)) xs ts else none := rfl
abbrev FX := Fl × Env × Sst
/-- what follows a statement -/
def Seq (cf : CallF) (r : List Is) (Q : FX → Prop) : FX → Prop := fun p => match p.1 with
  | .nx => Rn (exB cf r p.2.1 p.2.2) Q
  | f => Q (f, p.2)
theorem seq_nx {r : List Is} {Q : FX → Prop} : Seq cf r Q (.nx, env, st) ↔ Rn (exB cf r env st) Q := Iff.rfl
@[simp] theorem seq_nc {r : List Is} {Q : FX → Prop} {t : Option T} : Seq cf r Q (.nx, t :: env, st) ↔ Rn (exB cf r (t :: env) st) Q := Iff.rfl
@[simp] theorem seq_rt {r : List Is} {Q : FX → Prop} {t : T} : Seq cf r Q (.rt t, env, st) ↔ Q (.rt t, env, st) := Iff.rfl
@[simp] theorem seq_bk {r : List Is} {Q : FX → Prop} : Seq cf r Q (.bk, env, st) ↔ Q (.bk, env, st) := Iff.rfl
@[simp] theorem seq_ct {r : List Is} {Q : FX → Prop} : Seq cf r Q (.ct, env, st) ↔ Q (.ct, env, st) := Iff.rfl
@[simp] theorem rn_nil {Q : FX → Prop} : Rn (exB cf [] env st) Q ↔ Q (.nx, env, st) := by
  unfold exB; simp
@[simp] theorem rn_cons {s : Is} {r : List Is} {Q : FX → Prop} : Rn (exB cf (s :: r) env st) Q ↔ Rn (exS cf s env st) (Seq cf r Q) := by
  conv => lhs; rw [exB]
  rcases exS cf s env st with _ | ⟨f, e, s1⟩
  · simp
  · cases f <;> simp [seq_nx]
/-- the two ways of an if -/
def IfS (cf : CallF) (a b : List Is) (env : Env) (Q : FX → Prop) : D × Sst → Prop := fun p => onB p.1 (Rn (exB cf a env p.2) Q) (Rn (exB cf b env p.2) Q)
@[simp] theorem ifS {a b : List Is} {Q : FX → Prop} {c : Bool} : IfS cf a b env Q (.bl c, st) ↔ (c = true → Rn (exB cf a env st) Q) ∧ (c = false → Rn (exB cf b env st) Q) := onB_bl
@[simp] theorem rn_set {tg : Tg} {e : Ir} {Q : FX → Prop} : Rn (exS cf (.set tg e) env st) Q ↔ Rn (evTop cf (frz (us e) env) e st) fun p => Rn (setTg tg p.1 (frz (us e) env)) fun env1 => Q (.nx, env1, p.2) := by
  conv => lhs; rw [exS]
  rcases evTop cf (frz (us e) env) e st with _ | ⟨x, s1⟩
  · simp
  · simp only [rn_some]
    cases tg with
    | n i =>
      simp only [setTg_n]
      rw [length_frz]
      by_cases h : i < env.length <;> simp only [h, if_true, if_false, rn_some, rn_none]
    | t ts =>
      simp only [setTg_t]
      cases bindT (.t ts) x.er (frz (us e) env) <;> simp
@[simp] theorem rn_par {xs : List Nat} {es : List Ir} {Q : FX → Prop} : Rn (exS cf (.par xs es) env st) Q ↔ Rn (evTops cf (frz (usL es) env) es st) fun p => Rn (setAll (frz (usL es) env) xs p.1) fun env1 => Q (.nx, env1, p.2) := by
  conv => lhs; rw [exS]
  rcases evTops cf (frz (usL es) env) es st with _ | ⟨x, s1⟩
  · simp
  · simp only [rn_some]
    cases setAll (frz (usL es) env) xs x <;> simp
@[simp] theorem rn_put {x : Nat} {i e : Ir} {Q : FX → Prop} : Rn (exS cf (.put x i e) env st) Q ↔ Rn (evI cf (frz (us e ++ us i) env) e st) fun p => Rn (evI cf (frz (us e ++ us i) env) i p.2) fun q =>
    Rn (match getD' (frz (us e ++ us i) env) x with
        | some kvs => if keysK kvs q.1 && fits (kvs.length + 1) then some (Fl.nx, (frz (us e ++ us i) env).set x (some (.od (dPut kvs q.1 p.1))), q.2) else none
        | none => match getL (frz (us e ++ us i) env) x with
          | none => if isTok (frz (us e ++ us i) env) x = true then (match putS q.2 q.1 p.1 with
            | some st3 => some (.nx, frz (us e ++ us i) env, st3)
            | none => none) else none
          | some ds => match asInt? q.1 with
            | some j => match ixN ds.length j with
              | some m => some (.nx, (frz (us e ++ us i) env).set x (some (.ol (ds.set m p.1))), q.2)
              | none => none
            | none => none) Q := by
  conv => lhs; rw [exS]
  rcases evI cf (frz (us e ++ us i) env) e st with _ | ⟨v, s1⟩
  · simp
  · simp only [rn_some]
    rcases evI cf (frz (us e ++ us i) env) i s1 with _ | ⟨v, s1⟩
    · simp
    · rw [rn_some] <;> exact Iff.rfl
@[simp] theorem rn_app {x : Nat} {e : Ir} {Q : FX → Prop} : Rn (exS cf (.app x e) env st) Q ↔ Rn (evI cf (frz (us e) env) e st) fun p => Rn (getL (frz (us e) env) x) fun ds => fits (ds.length + 1) = true ∧ Q (.nx, (frz (us e) env).set x (some (.ol (ds ++ [p.1]))), p.2) := by
  conv => lhs; rw [exS]
  rcases evI cf (frz (us e) env) e st with _ | ⟨v, s1⟩
  · simp
  · simp only [rn_some]
    cases getL (frz (us e) env) x <;> simp [rn_ifn]
def asL (d : D) : Option (List D) := match d with
  | .lst es => some es
  | _ => none
@[simp] theorem asL_lst {es : List D} : asL (.lst es) = some es := rfl
@[simp] theorem rn_ext {x : Nat} {e : Ir} {Q : FX → Prop} : Rn (exS cf (.ext x e) env st) Q ↔ Rn (brw (frz (usB e (us e)) env) e st (evI cf (frz (usB e (us e)) env) e st)) fun p => Rn (getL (frz (usB e (us e)) env) x) fun ds => Rn (asL p.1) fun es =>
    fits (ds.length + es.length) = true ∧ Q (.nx, (frz (usB e (us e)) env).set x (some (.ol (ds ++ es))), p.2) := by
  conv => lhs; rw [exS]
  rcases brw (frz (usB e (us e)) env) e st (evI cf (frz (usB e (us e)) env) e st) with _ | ⟨v, s1⟩
  · simp
  · simp only [rn_some]
    cases getL (frz (usB e (us e)) env) x with
    | none => simp
    | some ds => cases v <;> simp [asL, rn_ifn]
def asDc (d : D) : Option (List (D × D)) := match d with
  | .dct es => some es
  | _ => none
@[simp] theorem asDc_dct {es : List (D × D)} : asDc (.dct es) = some es := rfl
@[simp] theorem rn_upd {x : Nat} {e : Ir} {Q : FX → Prop} : Rn (exS cf (.upd x e) env st) Q ↔ Rn (evI cf (frz (us e) env) e st) fun p => Rn (getD' (frz (us e) env) x) fun kvs => Rn (asDc p.1) fun more =>
    (more.all (fun p => keysK kvs p.1) && fits (kvs.length + more.length)) = true ∧ Q (.nx, (frz (us e) env).set x (some (.od (more.foldl (fun a p => dPut a p.1 p.2) kvs))), p.2) := by
  conv => lhs; rw [exS]
  rcases evI cf (frz (us e) env) e st with _ | ⟨v, s1⟩
  · simp
  · simp only [rn_some]
    cases getD' (frz (us e) env) x with
    | none => simp
    | some ds => cases v <;> simp [asDc, rn_ifn]
@[simp] theorem rn_pop {x y : Nat} {Q : FX → Prop} : Rn (exS cf (.pop y x) env st) Q ↔ Rn (getL env x) fun ds => Rn ds.getLast? fun d => y < env.length ∧ Q (.nx, (env.set x (some (.ol ds.dropLast))).set y (some (.fz d)), st) := by
  conv => lhs; rw [exS]
  cases getL env x with
  | none => simp
  | some ds =>
    simp only [rn_some]
    cases ds.getLast? with
    | none => simp
    | some d => simp [rn_ite]
@[simp] theorem rn_appPop {x y : Nat} {i : Ir} {Q : FX → Prop} : Rn (exS cf (.appPop y x i) env st) Q ↔ Rn (evI cf (frz (us i) env) i st) fun p => x ≠ y ∧ Rn (getL (frz (us i) env) x) fun ds => Rn (asI p.1) fun j => Rn (ixN ds.length j) fun m => Rn ds[m]? fun d => Rn (getL (frz (us i) env) y) fun es =>
    (fits (es.length + 1) && fits ds.length) = true ∧ Q (.nx, ((frz (us i) env).set x (some (.ol (ds.eraseIdx m)))).set y (some (.ol (es ++ [d]))), p.2) := by
  conv => lhs; rw [exS]
  rcases evI cf (frz (us i) env) i st with _ | ⟨k, s1⟩
  · simp
  · simp only [rn_some]
    by_cases h : x = y
    · simp [h]
    · simp only [h, if_false, ne_eq, not_false_eq_true, true_and]
      cases getL (frz (us i) env) x with
      | none => simp
      | some ds =>
        simp only [rn_some]
        cases k with
        | int j =>
          simp only [asInt?, asI_int, rn_some]
          cases ixN ds.length j with
          | none => simp
          | some m =>
            simp only [rn_some]
            cases ds[m]? with
            | none => simp
            | some d =>
              simp only [rn_some]
              cases getL (frz (us i) env) y with
              | none => simp
              | some es => simp [rn_ite]
        | _ => simp [asInt?, asI]
@[simp] theorem rn_ex {e : Ir} {Q : FX → Prop} : Rn (exS cf (.ex e) env st) Q ↔ Rn (evTop cf (frz (us e) env) e st) fun p => Q (.nx, frz (us e) env, p.2) := by
  conv => lhs; rw [exS]
  rcases evTop cf (frz (us e) env) e st with _ | ⟨v, s1⟩ <;> simp
@[simp] theorem rn_iff {c : Ir} {a b : List Is} {Q : FX → Prop} : Rn (exS cf (.iff c a b) env st) Q ↔ Rn (evI cf (frz (us c) env) c st) (IfS cf a b (frz (us c) env) Q) := by
  conv => lhs; rw [exS]
  rcases evI cf (frz (us c) env) c st with _ | ⟨x, s1⟩
  · simp
  · cases x with
    | bl b => cases b <;> simp
    | _ => simp [onB, AndS, OrS, NotS, IteS, TsS, IfS]
@[simp] theorem rn_for {tg : Tg} {im : Im} {its : List Ir} {body : List Is} {Q : FX → Prop} : Rn (exS cf (.for tg im its body) env st) Q ↔ Rn (evL cf (frz (usL its) env) its st) fun p => Rn (itD im p.1) fun xs => Rn (forGo (fun d env => bindT tg d env) (fun env st => exB cf body env st) xs (frz (usL its) env) p.2) Q := by
  conv => lhs; rw [exS]
  rcases evL cf (frz (usL its) env) its st with _ | ⟨x, s1⟩
  · simp
  · simp only [rn_some]
    cases itD im x <;> simp
@[simp] theorem rn_whl {c : Ir} {body : List Is} {Q : FX → Prop} : Rn (exS cf (.whl c body) env st) Q ↔ Rn (whlD (fun env st => if us c = [] then evI cf env c st else none) (fun env st => exB cf body env st) env st) Q := by
  conv => lhs; rw [exS]
@[simp] theorem rn_retV {i : Nat} {Q : FX → Prop} : Rn (exS cf (.ret (.v i)) env st) Q ↔ Rn (match env[i]? with
    | some (some t) => some t
    | _ => none) fun t => Q (.rt t, env, st) := by
  conv => lhs; rw [exS]
  cases env[i]? with
  | none => simp
  | some t => cases t <;> simp
theorem rn_ret {e : Ir} (h : ∀ i, e ≠ .v i) {Q : FX → Prop} : Rn (exS cf (.ret e) env st) Q ↔ Rn (evTop cf (frz (us e) env) e st) fun p => Q (.rt p.1, frz (us e) env, p.2) := by
  rw [exS]
  · rcases evTop cf (frz (us e) env) e st with _ | ⟨v, s1⟩ <;> simp
  · exact fun i z => h i z
@[simp] theorem top_k {d : D} {P : T × Sst → Prop} : Rn (evTop cf env (.k d) st) P ↔ Rn (evI cf env (.k d) st) fun p => P (ownT (.k d) p.1, p.2) := rn_top rfl
@[simp] theorem top_lst {a : List (Bool × Ir)} {P : T × Sst → Prop} : Rn (evTop cf env (.lst a) st) P ↔ Rn (evI cf env (.lst a) st) fun p => P (ownT (.lst a) p.1, p.2) := rn_top rfl
@[simp] theorem top_tup {a : List (Bool × Ir)} {P : T × Sst → Prop} : Rn (evTop cf env (.tup a) st) P ↔ Rn (evI cf env (.tup a) st) fun p => P (ownT (.tup a) p.1, p.2) := rn_top rfl
@[simp] theorem top_dct {a : List (Ir × Ir)} {P : T × Sst → Prop} : Rn (evTop cf env (.dct a) st) P ↔ Rn (evI cf env (.dct a) st) fun p => P (ownT (.dct a) p.1, p.2) := rn_top rfl
@[simp] theorem top_bin {op : Operator} {a b : Ir} {P : T × Sst → Prop} : Rn (evTop cf env (.bin op a b) st) P ↔ Rn (evI cf env (.bin op a b) st) fun p => P (ownT (.bin op a b) p.1, p.2) := rn_top rfl
@[simp] theorem top_cmp {op : CmpOp} {a b : Ir} {P : T × Sst → Prop} : Rn (evTop cf env (.cmp op a b) st) P ↔ Rn (evI cf env (.cmp op a b) st) fun p => P (ownT (.cmp op a b) p.1, p.2) := rn_top rfl
@[simp] theorem top_chain {op op' : CmpOp} {a b c : Ir} {P : T × Sst → Prop} : Rn (evTop cf env (.chain op op' a b c) st) P ↔ Rn (evI cf env (.chain op op' a b c) st) fun p => P (ownT (.chain op op' a b c) p.1, p.2) := rn_top rfl
@[simp] theorem top_isN {a : Ir} {P : T × Sst → Prop} : Rn (evTop cf env (.isN a) st) P ↔ Rn (evI cf env (.isN a) st) fun p => P (ownT (.isN a) p.1, p.2) := rn_top rfl
@[simp] theorem top_notN {a : Ir} {P : T × Sst → Prop} : Rn (evTop cf env (.notN a) st) P ↔ Rn (evI cf env (.notN a) st) fun p => P (ownT (.notN a) p.1, p.2) := rn_top rfl
@[simp] theorem top_and {a b : Ir} {P : T × Sst → Prop} : Rn (evTop cf env (.and a b) st) P ↔ Rn (evI cf env (.and a b) st) fun p => P (ownT (.and a b) p.1, p.2) := rn_top rfl
@[simp] theorem top_or {a b : Ir} {P : T × Sst → Prop} : Rn (evTop cf env (.or a b) st) P ↔ Rn (evI cf env (.or a b) st) fun p => P (ownT (.or a b) p.1, p.2) := rn_top rfl
@[simp] theorem top_nt {a : Ir} {P : T × Sst → Prop} : Rn (evTop cf env (.not a) st) P ↔ Rn (evI cf env (.not a) st) fun p => P (ownT (.not a) p.1, p.2) := rn_top rfl
@[simp] theorem top_ite {a b c : Ir} {P : T × Sst → Prop} : Rn (evTop cf env (.ite a b c) st) P ↔ Rn (evI cf env (.ite a b c) st) fun p => P (ownT (.ite a b c) p.1, p.2) := rn_top rfl
@[simp] theorem top_neg {a : Ir} {P : T × Sst → Prop} : Rn (evTop cf env (.neg a) st) P ↔ Rn (evI cf env (.neg a) st) fun p => P (ownT (.neg a) p.1, p.2) := rn_top rfl
@[simp] theorem top_sub {a b : Ir} {P : T × Sst → Prop} : Rn (evTop cf env (.sub a b) st) P ↔ Rn (evI cf env (.sub a b) st) fun p => P (ownT (.sub a b) p.1, p.2) := rn_top rfl
@[simp] theorem top_cut {a : Ir} {b c : Option Ir} {P : T × Sst → Prop} : Rn (evTop cf env (.cut a b c) st) P ↔ Rn (evI cf env (.cut a b c) st) fun p => P (ownT (.cut a b c) p.1, p.2) := rn_top rfl
@[simp] theorem top_fld {a : Ir} {f : Str} {cs : List Str} {P : T × Sst → Prop} : Rn (evTop cf env (.fld a f cs) st) P ↔ Rn (evI cf env (.fld a f cs) st) fun p => P (ownT (.fld a f cs) p.1, p.2) := rn_top rfl
@[simp] theorem top_new {g : Str} {as : List Ir} {P : T × Sst → Prop} : Rn (evTop cf env (.new g as) st) P ↔ Rn (evI cf env (.new g as) st) fun p => P (ownT (.new g as) p.1, p.2) := rn_top rfl
@[simp] theorem top_bi {b : Bi} {as : List Ir} {P : T × Sst → Prop} : Rn (evTop cf env (.bi b as) st) P ↔ Rn (evI cf env (.bi b as) st) fun p => P (ownT (.bi b as) p.1, p.2) := rn_top rfl
@[simp] theorem top_isi {a : Ir} {ts cs : List Str} {P : T × Sst → Prop} : Rn (evTop cf env (.isi a ts cs) st) P ↔ Rn (evI cf env (.isi a ts cs) st) fun p => P (ownT (.isi a ts cs) p.1, p.2) := rn_top rfl
@[simp] theorem top_spop {i : Nat} {P : T × Sst → Prop} : Rn (evTop cf env (.spop i) st) P ↔ Rn (evI cf env (.spop i) st) fun p => P (ownT (.spop i) p.1, p.2) := rn_top rfl
@[simp] theorem top_ncells {i : Nat} {P : T × Sst → Prop} : Rn (evTop cf env (.ncells i) st) P ↔ Rn (evI cf env (.ncells i) st) fun p => P (ownT (.ncells i) p.1, p.2) := rn_top rfl
@[simp] theorem top_join {a b : Ir} {P : T × Sst → Prop} : Rn (evTop cf env (.join a b) st) P ↔ Rn (evI cf env (.join a b) st) fun p => P (ownT (.join a b) p.1, p.2) := rn_top rfl
@[simp] theorem top_lc {own : List Nat} {tg : Tg} {im : Im} {its ifs : List Ir} {elt : Ir} {P : T × Sst → Prop} : Rn (evTop cf env (.lc own tg im its ifs elt) st) P ↔ Rn (evI cf env (.lc own tg im its ifs elt) st) fun p => P (ownT (.lc own tg im its ifs elt) p.1, p.2) := rn_top rfl
@[simp] theorem top_dc {own : List Nat} {tg : Tg} {im : Im} {its ifs : List Ir} {ke ve : Ir} {P : T × Sst → Prop} : Rn (evTop cf env (.dc own tg im its ifs ke ve) st) P ↔ Rn (evI cf env (.dc own tg im its ifs ke ve) st) fun p => P (ownT (.dc own tg im its ifs ke ve) p.1, p.2) := rn_top rfl
@[simp] theorem top_v {i : Nat} {P : T × Sst → Prop} : Rn (evTop cf env (.v i) st) P ↔ Rn (evI cf env (.v i) st) fun p => P (ownT (.v i) p.1, p.2) := rn_top rfl
@[simp] theorem ret_k {d : D} {Q : FX → Prop} : Rn (exS cf (.ret (.k d)) env st) Q ↔ Rn (evTop cf (frz (us (.k d)) env) (.k d) st) fun p => Q (.rt p.1, frz (us (.k d)) env, p.2) := rn_ret (fun _ z => by cases z)
@[simp] theorem ret_lst {a : List (Bool × Ir)} {Q : FX → Prop} : Rn (exS cf (.ret (.lst a)) env st) Q ↔ Rn (evTop cf (frz (us (.lst a)) env) (.lst a) st) fun p => Q (.rt p.1, frz (us (.lst a)) env, p.2) := rn_ret (fun _ z => by cases z)
@[simp] theorem ret_tup {a : List (Bool × Ir)} {Q : FX → Prop} : Rn (exS cf (.ret (.tup a)) env st) Q ↔ Rn (evTop cf (frz (us (.tup a)) env) (.tup a) st) fun p => Q (.rt p.1, frz (us (.tup a)) env, p.2) := rn_ret (fun _ z => by cases z)
@[simp] theorem ret_dct {a : List (Ir × Ir)} {Q : FX → Prop} : Rn (exS cf (.ret (.dct a)) env st) Q ↔ Rn (evTop cf (frz (us (.dct a)) env) (.dct a) st) fun p => Q (.rt p.1, frz (us (.dct a)) env, p.2) := rn_ret (fun _ z => by cases z)
@[simp] theorem ret_bin {op : Operator} {a b : Ir} {Q : FX → Prop} : Rn (exS cf (.ret (.bin op a b)) env st) Q ↔ Rn (evTop cf (frz (us (.bin op a b)) env) (.bin op a b) st) fun p => Q (.rt p.1, frz (us (.bin op a b)) env, p.2) := rn_ret (fun _ z => by cases z)
@[simp] theorem ret_cmp {op : CmpOp} {a b : Ir} {Q : FX → Prop} : Rn (exS cf (.ret (.cmp op a b)) env st) Q ↔ Rn (evTop cf (frz (us (.cmp op a b)) env) (.cmp op a b) st) fun p => Q (.rt p.1, frz (us (.cmp op a b)) env, p.2) := rn_ret (fun _ z => by cases z)
@[simp] theorem ret_chain {op op' : CmpOp} {a b c : Ir} {Q : FX → Prop} : Rn (exS cf (.ret (.chain op op' a b c)) env st) Q ↔ Rn (evTop cf (frz (us (.chain op op' a b c)) env) (.chain op op' a b c) st) fun p => Q (.rt p.1, frz (us (.chain op op' a b c)) env, p.2) := rn_ret (fun _ z => by cases z)
@[simp] theorem ret_isN {a : Ir} {Q : FX → Prop} : Rn (exS cf (.ret (.isN a)) env st) Q ↔ Rn (evTop cf (frz (us (.isN a)) env) (.isN a) st) fun p => Q (.rt p.1, frz (us (.isN a)) env, p.2) := rn_ret (fun _ z => by cases z)
@[simp] theorem ret_notN {a : Ir} {Q : FX → Prop} : Rn (exS cf (.ret (.notN a)) env st) Q ↔ Rn (evTop cf (frz (us (.notN a)) env) (.notN a) st) fun p => Q (.rt p.1, frz (us (.notN a)) env, p.2) := rn_ret (fun _ z => by cases z)
@[simp] theorem ret_and {a b : Ir} {Q : FX → Prop} : Rn (exS cf (.ret (.and a b)) env st) Q ↔ Rn (evTop cf (frz (us (.and a b)) env) (.and a b) st) fun p => Q (.rt p.1, frz (us (.and a b)) env, p.2) := rn_ret (fun _ z => by cases z)
@[simp] theorem ret_or {a b : Ir} {Q : FX → Prop} : Rn (exS cf (.ret (.or a b)) env st) Q ↔ Rn (evTop cf (frz (us (.or a b)) env) (.or a b) st) fun p => Q (.rt p.1, frz (us (.or a b)) env, p.2) := rn_ret (fun _ z => by cases z)
@[simp] theorem ret_nt {a : Ir} {Q : FX → Prop} : Rn (exS cf (.ret (.not a)) env st) Q ↔ Rn (evTop cf (frz (us (.not a)) env) (.not a) st) fun p => Q (.rt p.1, frz (us (.not a)) env, p.2) := rn_ret (fun _ z => by cases z)
@[simp] theorem ret_ite {a b c : Ir} {Q : FX → Prop} : Rn (exS cf (.ret (.ite a b c)) env st) Q ↔ Rn (evTop cf (frz (us (.ite a b c)) env) (.ite a b c) st) fun p => Q (.rt p.1, frz (us (.ite a b c)) env, p.2) := rn_ret (fun _ z => by cases z)
@[simp] theorem ret_neg {a : Ir} {Q : FX → Prop} : Rn (exS cf (.ret (.neg a)) env st) Q ↔ Rn (evTop cf (frz (us (.neg a)) env) (.neg a) st) fun p => Q (.rt p.1, frz (us (.neg a)) env, p.2) := rn_ret (fun _ z => by cases z)
@[simp] theorem ret_sub {a b : Ir} {Q : FX → Prop} : Rn (exS cf (.ret (.sub a b)) env st) Q ↔ Rn (evTop cf (frz (us (.sub a b)) env) (.sub a b) st) fun p => Q (.rt p.1, frz (us (.sub a b)) env, p.2) := rn_ret (fun _ z => by cases z)
@[simp] theorem ret_cut {a : Ir} {b c : Option Ir} {Q : FX → Prop} : Rn (exS cf (.ret (.cut a b c)) env st) Q ↔ Rn (evTop cf (frz (us (.cut a b c)) env) (.cut a b c) st) fun p => Q (.rt p.1, frz (us (.cut a b c)) env, p.2) := rn_ret (fun _ z => by cases z)
@[simp] theorem ret_fld {a : Ir} {f : Str} {cs : List Str} {Q : FX → Prop} : Rn (exS cf (.ret (.fld a f cs)) env st) Q ↔ Rn (evTop cf (frz (us (.fld a f cs)) env) (.fld a f cs) st) fun p => Q (.rt p.1, frz (us (.fld a f cs)) env, p.2) := rn_ret (fun _ z => by cases z)
@[simp] theorem ret_new {g : Str} {as : List Ir} {Q : FX → Prop} : Rn (exS cf (.ret (.new g as)) env st) Q ↔ Rn (evTop cf (frz (us (.new g as)) env) (.new g as) st) fun p => Q (.rt p.1, frz (us (.new g as)) env, p.2) := rn_ret (fun _ z => by cases z)
@[simp] theorem ret_bi {b : Bi} {as : List Ir} {Q : FX → Prop} : Rn (exS cf (.ret (.bi b as)) env st) Q ↔ Rn (evTop cf (frz (us (.bi b as)) env) (.bi b as) st) fun p => Q (.rt p.1, frz (us (.bi b as)) env, p.2) := rn_ret (fun _ z => by cases z)
@[simp] theorem ret_isi {a : Ir} {ts cs : List Str} {Q : FX → Prop} : Rn (exS cf (.ret (.isi a ts cs)) env st) Q ↔ Rn (evTop cf (frz (us (.isi a ts cs)) env) (.isi a ts cs) st) fun p => Q (.rt p.1, frz (us (.isi a ts cs)) env, p.2) := rn_ret (fun _ z => by cases z)
@[simp] theorem ret_spop {i : Nat} {Q : FX → Prop} : Rn (exS cf (.ret (.spop i)) env st) Q ↔ Rn (evTop cf (frz (us (.spop i)) env) (.spop i) st) fun p => Q (.rt p.1, frz (us (.spop i)) env, p.2) := rn_ret (fun _ z => by cases z)
@[simp] theorem ret_ncells {i : Nat} {Q : FX → Prop} : Rn (exS cf (.ret (.ncells i)) env st) Q ↔ Rn (evTop cf (frz (us (.ncells i)) env) (.ncells i) st) fun p => Q (.rt p.1, frz (us (.ncells i)) env, p.2) := rn_ret (fun _ z => by cases z)
@[simp] theorem ret_join {a b : Ir} {Q : FX → Prop} : Rn (exS cf (.ret (.join a b)) env st) Q ↔ Rn (evTop cf (frz (us (.join a b)) env) (.join a b) st) fun p => Q (.rt p.1, frz (us (.join a b)) env, p.2) := rn_ret (fun _ z => by cases z)
@[simp] theorem ret_lc {own : List Nat} {tg : Tg} {im : Im} {its ifs : List Ir} {elt : Ir} {Q : FX → Prop} : Rn (exS cf (.ret (.lc own tg im its ifs elt)) env st) Q ↔ Rn (evTop cf (frz (us (.lc own tg im its ifs elt)) env) (.lc own tg im its ifs elt) st) fun p => Q (.rt p.1, frz (us (.lc own tg im its ifs elt)) env, p.2) := rn_ret (fun _ z => by cases z)
@[simp] theorem ret_dc {own : List Nat} {tg : Tg} {im : Im} {its ifs : List Ir} {ke ve : Ir} {Q : FX → Prop} : Rn (exS cf (.ret (.dc own tg im its ifs ke ve)) env st) Q ↔ Rn (evTop cf (frz (us (.dc own tg im its ifs ke ve)) env) (.dc own tg im its ifs ke ve) st) fun p => Q (.rt p.1, frz (us (.dc own tg im its ifs ke ve)) env, p.2) := rn_ret (fun _ z => by cases z)
@[simp] theorem ret_call {g : Str} {as : List Ir} {ord : List Nat} {Q : FX → Prop} : Rn (exS cf (.ret (.call g as ord)) env st) Q ↔ Rn (evTop cf (frz (us (.call g as ord)) env) (.call g as ord) st) fun p => Q (.rt p.1, frz (us (.call g as ord)) env, p.2) := rn_ret (fun _ z => by cases z)
@[simp] theorem rn_retN {Q : FX → Prop} : Rn (exS cf .retN env st) Q ↔ Q (.rt (.fz .non), env, st) := by
  unfold exS; simp
@[simp] theorem rn_brk {Q : FX → Prop} : Rn (exS cf .brk env st) Q ↔ Q (.bk, env, st) := by
  unfold exS; simp
@[simp] theorem rn_cont {Q : FX → Prop} : Rn (exS cf .cont env st) Q ↔ Q (.ct, env, st) := by
  unfold exS; simp
@[simp] theorem rn_pass {Q : FX → Prop} : Rn (exS cf .pass env st) Q ↔ Q (.nx, env, st) := by
  unfold exS; simp
/-! ### loops, by what holds at each turn -/
/-- what follows a turn -/
def LpS (I : Env → Sst → Prop) (Q : FX → Prop) : FX → Prop := fun p => match p.1 with
  | .nx => I p.2.1 p.2.2
  | .ct => I p.2.1 p.2.2
  | .bk => Q (.nx, p.2)
  | .rt t => Q (.rt t, p.2)
@[simp] theorem lp_nx {I : Env → Sst → Prop} {Q : FX → Prop} : LpS I Q (.nx, env, st) ↔ I env st := Iff.rfl
@[simp] theorem lp_ct {I : Env → Sst → Prop} {Q : FX → Prop} : LpS I Q (.ct, env, st) ↔ I env st := Iff.rfl
@[simp] theorem lp_bk {I : Env → Sst → Prop} {Q : FX → Prop} : LpS I Q (.bk, env, st) ↔ Q (.nx, env, st) := Iff.rfl
@[simp] theorem lp_rt {I : Env → Sst → Prop} {Q : FX → Prop} {t : T} : LpS I Q (.rt t, env, st) ↔ Q (.rt t, env, st) := Iff.rfl
def WhS (body : Env → Sst → Option FX) (env : Env) (I : Env → Sst → Prop) (Q : FX → Prop) : D × Sst → Prop := fun q => onB q.1 (Rn (body env q.2) (LpS I Q)) (Q (.nx, env, q.2))
@[simp] theorem whS {body : Env → Sst → Option FX} {I : Env → Sst → Prop} {Q : FX → Prop} {c : Bool} : WhS body env I Q (.bl c, st) ↔ (c = true → Rn (body env st) (LpS I Q)) ∧ (c = false → Q (.nx, env, st)) := onB_bl
theorem for_inv {bd : D → Env → Option Env} {body : Env → Sst → Option FX} {xs : List D} {env : Env} {st : Sst} {Q : FX → Prop} (I : Nat → Env → Sst → Prop) (h0 : I 0 env st)
    (hs : ∀ i x env st, xs[i]? = some x → I i env st → Rn (bd x env) fun env1 => Rn (body env1 st) (LpS (I (i + 1)) Q))
    (hd : ∀ env st, I xs.length env st → Q (.nx, env, st)) : Rn (forGo bd body xs env st) Q := by
  induction xs generalizing env st I with
  | nil => unfold forGo; simp; exact hd _ _ h0
  | cons x xs ih =>
    obtain ⟨env1, e1, fx, e2, q⟩ := hs 0 x env st rfl h0
    obtain ⟨f, env2, st2⟩ := fx
    unfold forGo
    rw [e1]
    simp only
    rw [e2]
    have next : ∀ {env2 st2}, I 1 env2 st2 → Rn (forGo bd body xs env2 st2) Q := fun {env2 st2} h => by
      refine ih (fun i => I (i + 1)) h (fun i x' env st hx hi => hs (i + 1) x' env st (by simpa using hx) hi) (fun env st h => hd env st (by simpa using h))
    cases f with
    | nx => exact next q
    | ct => exact next q
    | bk => simp only [rn_some]; exact q
    | rt t => simp only [rn_some]; exact q
theorem whlN_mono {c : Env → Sst → Option (D × Sst)} {body : Env → Sst → Option FX} : ∀ {n : Nat} {env : Env} {st : Sst} {r : FX}, whlN c body n env st = some r → whlN c body (n + 1) env st = some r
  | 0, _, _, _, h => by cases h
  | n + 1, env, st, r, h => by
    rw [whlN] at h ⊢
    split at h
    · rename_i s1 e1; exact h
    · rename_i s1 e1
      split at h
      · rename_i env2 st2 e2; exact whlN_mono h
      · rename_i env2 st2 e2; exact whlN_mono h
      · rename_i env2 st2 e2; exact h
      · rename_i t env2 st2 e2; exact h
      · cases h
    · cases h
theorem whlN_le {c : Env → Sst → Option (D × Sst)} {body : Env → Sst → Option FX} {n m : Nat} (hm : n ≤ m) {env : Env} {st : Sst} {r : FX} (h : whlN c body n env st = some r) : whlN c body m env st = some r := by
  induction hm with
  | refl => exact h
  | step _ ih => exact whlN_mono ih
open Classical in
theorem whlD_of {c : Env → Sst → Option (D × Sst)} {body : Env → Sst → Option FX} {n : Nat} {env : Env} {st : Sst} {r : FX} (h : whlN c body n env st = some r) : whlD c body env st = some r := by
  have hx : ∃ n r, whlN c body n env st = some r := ⟨n, r, h⟩
  unfold whlD
  rw [dif_pos hx]
  have h2 := hx.choose_spec.choose_spec
  have a := whlN_le (Nat.le_max_left n hx.choose) h
  have b := whlN_le (Nat.le_max_right n hx.choose) h2
  rw [a] at b
  exact b.symm
theorem whl_inv {c : Env → Sst → Option (D × Sst)} {body : Env → Sst → Option FX} {Q : FX → Prop} (I : Nat → Env → Sst → Prop) {n : Nat} {env : Env} {st : Sst} (h0 : I n env st)
    (hs : ∀ n env st, I n env st → Rn (c env st) (WhS body env (fun env st => ∃ m, m < n ∧ I m env st) Q)) : Rn (whlD c body env st) Q := by
  have main : ∀ n env st, I n env st → ∃ k r, whlN c body k env st = some r ∧ Q r := by
    intro n
    induction n using Nat.strongRecOn with
    | ind n ih =>
      intro env st h
      obtain ⟨⟨d, s1⟩, e1, q⟩ := hs n env st h
      cases d with
      | bl b =>
        cases b with
        | false => exact ⟨1, _, by rw [whlN, e1], q⟩
        | true =>
          obtain ⟨⟨f, env2, st2⟩, e2, q2⟩ := (show Rn (body env s1) _ from q)
          cases f with
          | nx =>
            obtain ⟨m, hm, hi⟩ := q2
            obtain ⟨k, r, e3, q3⟩ := ih m hm env2 st2 hi
            exact ⟨k + 1, r, by rw [whlN, e1]; simp only; rw [e2]; exact e3, q3⟩
          | ct =>
            obtain ⟨m, hm, hi⟩ := q2
            obtain ⟨k, r, e3, q3⟩ := ih m hm env2 st2 hi
            exact ⟨k + 1, r, by rw [whlN, e1]; simp only; rw [e2]; exact e3, q3⟩
          | bk => exact ⟨1, (.nx, env2, st2), by rw [whlN, e1]; simp only; rw [e2], q2⟩
          | rt t => exact ⟨1, (.rt t, env2, st2), by rw [whlN, e1]; simp only; rw [e2], q2⟩
      | _ => cases q
  obtain ⟨k, r, e, q⟩ := main n env st h0
  exact ⟨r, whlD_of e, q⟩
theorem lc_inv {bd : D → Option Env} {tst : Env → Sst → Option (Bool × Sst)} {el : Env → Sst → Option (D × Sst)} {xs : List D} {st : Sst} {Q : List D × Sst → Prop} (I : Nat → List D → Sst → Prop) (h0 : I 0 [] st)
    (hs : ∀ i x acc st, xs[i]? = some x → I i acc st → Rn (bd x) fun env => Rn (tst env st) fun q => (q.1 = true → Rn (el env q.2) fun r => I (i + 1) (acc ++ [r.1]) r.2) ∧ (q.1 = false → I (i + 1) acc q.2))
    (hd : ∀ acc st, I xs.length acc st → Q (acc, st)) : Rn (lcGo bd tst el xs st) Q := by
  have main : ∀ (ys : List D) (i : Nat) (acc : List D) (st : Sst), (∀ j, ys[j]? = xs[i + j]?) → I i acc st → Rn (lcGo bd tst el ys st) fun r => I (i + ys.length) (acc ++ r.1) r.2 := by
    intro ys
    induction ys with
    | nil => intro i acc st _ h; unfold lcGo; simp; exact h
    | cons y ys ih =>
      intro i acc st hy h
      have e0 : xs[i]? = some y := by have := hy 0; simpa using this.symm
      have hy' : ∀ j, ys[j]? = xs[i + 1 + j]? := fun j => by have := hy (j + 1); rw [show i + 1 + j = i + (j + 1) from by omega]; simpa using this
      obtain ⟨env, e1, ⟨b, s1⟩, e2, q⟩ := hs i y acc st e0 h
      unfold lcGo
      rw [e1]
      simp only
      rw [e2]
      cases b with
      | false =>
        have := ih (i + 1) acc s1 hy' (q.2 rfl)
        simp only
        refine this.mono fun r hr => ?_
        rw [List.length_cons, show i + (ys.length + 1) = i + 1 + ys.length from by omega]
        exact hr
      | true =>
        obtain ⟨⟨d, s2⟩, e3, q3⟩ := q.1 rfl
        simp only
        rw [e3]
        simp only
        obtain ⟨⟨ds, s3⟩, e4, q4⟩ := ih (i + 1) (acc ++ [d]) s2 hy' q3
        rw [e4]
        simp only [rn_some]
        rw [List.length_cons, show i + (ys.length + 1) = i + 1 + ys.length from by omega]
        simpa using q4
  obtain ⟨r, e, q⟩ := main xs 0 [] st (fun j => by simp) h0
  exact ⟨r, e, hd _ _ (by simpa using q)⟩
/-- no draws: a filter and a map -/
theorem lc_pure {bd : D → Option Env} {tst : Env → Sst → Option (Bool × Sst)} {el : Env → Sst → Option (D × Sst)} {xs : List D} {st : Sst} {Q : List D × Sst → Prop} (p : D → Bool) (f : D → D)
    (hs : ∀ x ∈ xs, Rn (bd x) fun env => Rn (tst env st) fun q => q = (p x, st) ∧ (p x = true → Rn (el env st) fun r => r = (f x, st)))
    (hd : Q ((xs.filter p).map f, st)) : Rn (lcGo bd tst el xs st) Q := by
  have main : ∀ ys : List D, (∀ y ∈ ys, y ∈ xs) → lcGo bd tst el ys st = some ((ys.filter p).map f, st) := by
    intro ys
    induction ys with
    | nil => intro _; rfl
    | cons y ys ih =>
      intro hy
      obtain ⟨env, e1, q, e2, rfl, q3⟩ := hs y (hy y (by simp))
      have ih := ih fun z hz => hy z (by simp [hz])
      unfold lcGo
      rw [e1]
      simp only
      rw [e2]
      cases hp : p y with
      | false => simp only [List.filter_cons, hp]; rw [ih]; simp
      | true =>
        obtain ⟨r, e3, rfl⟩ := q3 hp
        simp only [List.filter_cons, hp, if_true]
        rw [e3]
        simp only
        rw [ih]
        simp
  exact ⟨_, main xs fun _ h => h, hd⟩
theorem lc_map {bd : D → Option Env} {tst : Env → Sst → Option (Bool × Sst)} {el : Env → Sst → Option (D × Sst)} {xs : List D} {st : Sst} {Q : List D × Sst → Prop} (f : D → D)
    (hs : ∀ x ∈ xs, Rn (bd x) fun env => Rn (tst env st) fun q => q = (true, st) ∧ Rn (el env st) fun r => r = (f x, st))
    (hd : Q (xs.map f, st)) : Rn (lcGo bd tst el xs st) Q :=
  lc_pure (fun _ => true) f (fun x hx => (hs x hx).mono fun env h => h.mono fun q h => ⟨h.1, fun _ => h.2⟩) (by rw [List.filter_eq_self.mpr fun _ _ => rfl]; exact hd)
end
/-! ### calls -/
section
variable {tb : Str × Option Str → Option FnI} {pr : PrimF} {k : Nat}
/-- how a def ends -/
def Fin (P : T × Sst → Prop) : FX → Prop := fun r => match r.1 with
  | .rt t => P (t, r.2.2)
  | .nx => P (.fz .non, r.2.2)
  | _ => False
@[simp] theorem fin_rt {P : T × Sst → Prop} {t : T} {env : Env} {st : Sst} : Fin P (.rt t, env, st) ↔ P (t, st) := Iff.rfl
@[simp] theorem fin_nx {P : T × Sst → Prop} {env : Env} {st : Sst} : Fin P (.nx, env, st) ↔ P (.fz .non, st) := Iff.rfl
theorem rn_fn {x : Str} {f : FnI} {as : List D} {st : Sst} {P : T × Sst → Prop} (hp : pr k (x, none) = none) (ht : tb (x, none) = some f) (hl : as.length = f.np)
    (h : Rn (exB (callF tb pr k) f.body (as.map (fun d => some (T.fz d)) ++ List.replicate (f.ns - as.length) none) st) (Fin P)) : Rn (callF tb pr (k + 1) (x, none) as st) P := by
  obtain ⟨⟨fl, env, s1⟩, e, q⟩ := h
  have e0 : callF tb pr (k + 1) (x, none) as st = runFn (callF tb pr k) f as st := by
    conv => lhs; unfold callF
    rw [hp, ht]
    simp only
    rw [if_pos hl]
  rw [e0]
  unfold runFn
  rw [e]
  cases fl with
  | rt t => simp; exact q
  | nx => simp; exact q
  | bk => cases q
  | ct => cases q
theorem rn_pr {g : Str × Option Str} {f : List D → Sst → Option (T × Sst)} {as : List D} {st : Sst} {P : T × Sst → Prop} (hp : pr k g = some f) (h : Rn (f as st) P) : Rn (callF tb pr (k + 1) g as st) P := by
  have e0 : callF tb pr (k + 1) g as st = f as st := by
    conv => lhs; unfold callF
    rw [hp]
  rw [e0]
  exact h
end
end Ev
/-! EvD -/
namespace Ev
open PySem PySem.Spec PyProof.Rows L2
/-! ### strings, pairs of strings, lists of them -/
def Sok (s : Str) : Prop := PyData.strOk s = true
def pD (p : Str × Str) : D := .tup [.str p.1, .str p.2]
def Pok (p : Str × Str) : Prop := Sok p.1 ∧ Sok p.2
theorem toP_str {s : Str} : toP (.str s) = some (.str s) := rfl
theorem toP_pD {p : Str × Str} : toP (pD p) = some (.tuple [.str p.1, .str p.2]) := rfl
theorem toPs_map {α : Type} {f : α → D} {g : α → PyData} (h : ∀ a, toP (f a) = some (g a)) : ∀ l : List α, toPs (l.map f) = some (l.map g)
  | [] => rfl
  | a :: l => by
    show (match toP (f a), toPs (l.map f) with
      | some p, some ps => some (p :: ps)
      | _, _ => none) = _
    rw [h a, toPs_map h l]
    rfl
theorem shaped_str {s : Str} (h : Sok s) : SeqAt.shaped (.str s) = true := by
  unfold SeqAt.shaped
  simp only [PyData.canLay0, PyData.depth]
  simp [show PyData.strOk s = true from h]
theorem shaped_pair {p : Str × Str} (h : Pok p) : SeqAt.shaped (.tuple [.str p.1, .str p.2]) = true := by
  unfold SeqAt.shaped
  simp only [PyData.canLay0, PyData.canLayAll0, PyData.depth, PyData.depthAll]
  simp [show PyData.strOk p.1 = true from h.1, show PyData.strOk p.2 = true from h.2]
theorem canAll {α : Type} {g : α → PyData} : ∀ {l : List α}, (∀ a ∈ l, (g a).canLay0 = true) → PyData.canLayAll0 (l.map g) = true
  | [], _ => by simp [PyData.canLayAll0]
  | a :: l, h => by
    rw [List.map_cons, PyData.canLayAll0, h a (by simp), canAll fun b hb => h b (by simp [hb])]
    rfl
theorem depAll {α : Type} {g : α → PyData} {n : Nat} : ∀ {l : List α}, (∀ a ∈ l, (g a).depth ≤ n) → PyData.depthAll (l.map g) ≤ n
  | [], _ => by simp [PyData.depthAll]
  | a :: l, h => by
    rw [List.map_cons, PyData.depthAll]
    exact Nat.max_le.mpr ⟨h a (by simp), depAll fun b hb => h b (by simp [hb])⟩
theorem shaped_list {α : Type} {g : α → PyData} {l : List α} (h1 : ∀ a ∈ l, (g a).canLay0 = true) (h2 : ∀ a ∈ l, (g a).depth ≤ 63) : SeqAt.shaped (.list (l.map g)) = true := by
  unfold SeqAt.shaped
  simp only [PyData.canLay0, PyData.depth, canAll h1]
  have := depAll h2
  simp
  omega
theorem eqv_str {a b : Str} : PyData.eqv (.str a) (.str b) = decide (a = b) := by
  simp only [PyData.eqv]
  by_cases h : a = b <;> simp [h]
theorem eqv_pair {a b : Str × Str} : PyData.eqv (.tuple [.str a.1, .str a.2]) (.tuple [.str b.1, .str b.2]) = decide (a = b) := by
  simp only [PyData.eqv, PyData.eqvAll]
  obtain ⟨a1, a2⟩ := a
  obtain ⟨b1, b2⟩ := b
  by_cases h1 : a1 = b1 <;> by_cases h2 : a2 = b2 <;> simp [h1, h2]
theorem pEq_str {a b : Str} (ha : Sok a) (hb : Sok b) : pEq (.str a) (.str b) = some (decide (a = b)) := by
  unfold pEq
  simp only [toP_str]
  rw [shaped_str ha, shaped_str hb, eqv_str]
  rfl
theorem pEq_int {a b : Int} : pEq (.int a) (.int b) = some (decide (a = b)) := by
  have s : ∀ i : Int, SeqAt.shaped (.int i) = true := fun i => by
    unfold SeqAt.shaped; simp only [PyData.canLay0, PyData.depth]; simp
  unfold pEq
  simp only [toP]
  rw [s, s]
  simp only [PyData.eqv]
  by_cases h : a = b <;> simp [h]
theorem pEq_bl {a b : Bool} : pEq (.bl a) (.bl b) = some (a == b) := by
  have s : ∀ i : Bool, SeqAt.shaped (.bool i) = true := fun i => by
    unfold SeqAt.shaped; simp only [PyData.canLay0, PyData.depth]; simp
  unfold pEq
  simp only [toP]
  rw [s, s]
  simp only [PyData.eqv]
  simp
theorem any_map {α : Type} {g : α → PyData} {z : PyData} {p : α → Bool} (h : ∀ a, PyData.eqv (g a) z = p a) (l : List α) : ((l.map g).any fun y => PyData.eqv y z) = l.any p := by
  induction l with
  | nil => rfl
  | cons a l ih => rw [List.map_cons, List.any_cons, List.any_cons, h a, ih]
theorem any_eq {α : Type} [DecidableEq α] {x : α} (l : List α) : (l.any fun a => decide (a = x)) = decide (x ∈ l) := by
  rw [Bool.eq_iff_iff, List.any_eq_true]
  simp only [decide_eq_true_eq]
  constructor
  · rintro ⟨y, h, rfl⟩; exact h
  · exact fun h => ⟨x, h, rfl⟩
theorem in_strs {x : Str} {ss : List Str} (hx : Sok x) (h : ∀ s ∈ ss, Sok s) : inD (.str x) (.lst (ss.map .str)) = some (decide (x ∈ ss)) := by
  unfold inD
  simp only [toP_str, toPs_map (fun _ => toP_str)]
  rw [shaped_str hx, shaped_list (fun a ha => by simp only [PyData.canLay0]; exact h a ha) (fun a _ => by simp [PyData.depth])]
  rw [any_map (p := fun a => decide (a = x)) (fun a => eqv_str), any_eq]
  rfl
theorem in_strsT {x : Str} {ss : List Str} (hx : Sok x) (h : ∀ s ∈ ss, Sok s) : inD (.str x) (.tup (ss.map .str)) = some (decide (x ∈ ss)) := by
  unfold inD
  simp only [toP_str, toPs_map (fun _ => toP_str)]
  rw [shaped_str hx, shaped_list (fun a ha => by simp only [PyData.canLay0]; exact h a ha) (fun a _ => by simp [PyData.depth])]
  rw [any_map (p := fun a => decide (a = x)) (fun a => eqv_str), any_eq]
  rfl
theorem in_pD {x : Str} {p : Str × Str} (hx : Sok x) (h : Pok p) : inD (.str x) (pD p) = some (decide (x = p.1 ∨ x = p.2)) := by
  have := in_strsT (ss := [p.1, p.2]) hx (fun s hs => by
    simp at hs
    rcases hs with rfl | rfl
    · exact h.1
    · exact h.2)
  simpa [pD] using this
theorem in_pairs {p : Str × Str} {E : List (Str × Str)} (hx : Pok p) (h : ∀ s ∈ E, Pok s) : inD (pD p) (.lst (E.map pD)) = some (decide (p ∈ E)) := by
  unfold inD
  simp only [toP_pD, toPs_map (f := pD) (g := fun p => .tuple [.str p.1, .str p.2]) (fun _ => toP_pD)]
  rw [shaped_pair hx, shaped_list (fun a ha => by
    simp only [PyData.canLay0, PyData.canLayAll0]
    simp [show PyData.strOk a.1 = true from (h a ha).1, show PyData.strOk a.2 = true from (h a ha).2]) (fun a _ => by simp [PyData.depth, PyData.depthAll])]
  rw [any_map (p := fun a => decide (a = p)) (fun a => eqv_pair), any_eq]
  simp
/-! sorted -/
theorem alikeB_map {α : Type} {g : α → PyData} {l : List α} (h : ∀ a ∈ l, ∀ b ∈ l, PySem.W.alike (g a) (g b) = true) : alikeB (l.map g) = true := by
  unfold alikeB
  simp only [List.all_eq_true, List.mem_map, forall_exists_index, and_imp]
  rintro _ a ha rfl _ b hb rfl
  exact h a ha b hb
/-- sorted by the data's order -/
def srt {α : Type} (f : α → D) (l : List α) : List α := l.mergeSort fun a b => PySem.W.dataLe false encD (f a) (f b)
theorem srt_perm {α : Type} (f : α → D) (l : List α) : (srt f l).Perm l := List.mergeSort_perm _ _
theorem sortD_map {α : Type} {f : α → D} {g : α → PyData} {l : List α} (hf : ∀ a, toP (f a) = some (g a)) (h1 : ∀ a ∈ l, ∀ b ∈ l, PySem.W.alike (g a) (g b) = true) (h2 : ∀ a ∈ l, (g a).depth ≤ 64)
    (h3 : (∀ a ∈ l, tupB1 (g a) = true) ∨ (∀ a ∈ l, othB (g a) = true)) (h4 : l.length ≤ 16777216) : sortD (l.map f) = some ((srt f l).map f) := by
  unfold sortD
  rw [toPs_map hf]
  simp only
  have a1 := alikeB_map h1
  have a2 : ((l.map g).all fun p => decide (p.depth ≤ 64)) = true := by
    simp only [List.all_eq_true, List.mem_map, forall_exists_index, and_imp]
    rintro _ a ha rfl
    exact decide_eq_true (h2 a ha)
  have a3 : ((l.map g).all tupB1 || (l.map g).all othB) = true := by
    rcases h3 with h | h
    · rw [show (l.map g).all tupB1 = true by
        simp only [List.all_eq_true, List.mem_map, forall_exists_index, and_imp]
        rintro _ a ha rfl
        exact h a ha]
      rfl
    · rw [show (l.map g).all othB = true by
        simp only [List.all_eq_true, List.mem_map, forall_exists_index, and_imp]
        rintro _ a ha rfl
        exact h a ha]
      simp
  rw [a1, a2, a3, show fits (l.map f).length = true by unfold fits; rw [List.length_map]; exact decide_eq_true h4]
  simp only [Bool.and_self, if_true]
  congr 1
  exact (List.map_mergeSort (f := f) (r := fun a b => PySem.W.dataLe false encD (f a) (f b)) (s := PySem.W.dataLe false encD) (fun a _ b _ => rfl)).symm
theorem alike_str {a b : Str} : PySem.W.alike (.str a) (.str b) = true := by simp [PySem.W.alike]
theorem sort_strs {ss : List Str} (h : ss.length ≤ 16777216) : sortD (ss.map .str) = some ((srt D.str ss).map .str) :=
  sortD_map (g := .str) (fun _ => rfl) (fun _ _ _ _ => alike_str) (fun _ _ => by simp [PyData.depth]) (.inr fun _ _ => rfl) h
theorem sort_pairs {E : List (Str × Str)} (h : E.length ≤ 16777216) : sortD (E.map pD) = some ((srt pD E).map pD) :=
  sortD_map (g := fun p => .tuple [.str p.1, .str p.2]) (fun _ => rfl) (fun a _ b _ => by simp [PySem.W.alike, PySem.W.alikeAll]) (fun _ _ => by simp [PyData.depth, PyData.depthAll]) (.inl fun _ _ => rfl) h
/-- an int and a string -/
def isD (p : Int × Str) : D := .tup [.int p.1, .str p.2]
theorem sort_is {E : List (Int × Str)} (h : E.length ≤ 16777216) : sortD (E.map isD) = some ((srt isD E).map isD) :=
  sortD_map (g := fun p => .tuple [.int p.1, .str p.2]) (fun _ => rfl) (fun a _ b _ => by simp [PySem.W.alike, PySem.W.alikeAll]) (fun _ _ => by simp [PyData.depth, PyData.depthAll]) (.inl fun _ _ => rfl) h
/-! dicts with string keys -/
theorem toKey_str {s : Str} : toKey (.str s) = some (.inr s) := rfl
theorem keyEq_str {a b : Str} : keyEq (.str a) (.str b) = decide (a = b) := by
  unfold keyEq
  simp only [toKey_str]
  by_cases h : a = b
  · simp [h]
  · have : ¬ (Sum.inr a : Key) = .inr b := fun z => h (Sum.inr.inj z)
    simp [h, this]
def kD (p : Str × D) : D × D := (.str p.1, p.2)
theorem keysK_str {kvs : List (Str × D)} {s : Str} : keysK (kvs.map kD) (.str s) = true := by
  unfold keysK
  simp [toKey_str, kD]
theorem dLook_str {kvs : List (Str × D)} {s : Str} : dLook (kvs.map kD) (.str s) = kvs.lookup s := by
  unfold dLook
  induction kvs with
  | nil => rfl
  | cons p kvs ih =>
    obtain ⟨a, d⟩ := p
    rw [List.map_cons, List.find?_cons]
    simp only [kD]
    rw [keyEq_str]
    by_cases h : a = s
    · subst h
      simp [List.lookup]
    · have h2 : (s == a) = false := by simp; exact fun z => h z.symm
      simp only [h, decide_false, List.lookup, h2]
      exact ih
def sPut (kvs : List (Str × D)) (s : Str) (d : D) : List (Str × D) := if s ∈ kvs.map (·.1) then kvs.map (fun p => if p.1 = s then (p.1, d) else p) else kvs ++ [(s, d)]
theorem dPut_str {kvs : List (Str × D)} {s : Str} {d : D} : dPut (kvs.map kD) (.str s) d = (sPut kvs s d).map kD := by
  unfold dPut sPut
  have h1 : ((kvs.map kD).any fun p => keyEq p.1 (.str s)) = decide (s ∈ kvs.map (·.1)) := by
    rw [Bool.eq_iff_iff, List.any_eq_true]
    simp only [decide_eq_true_eq, List.mem_map]
    constructor
    · rintro ⟨_, ⟨p, hp, rfl⟩, h⟩
      simp only [kD, keyEq_str, decide_eq_true_eq] at h
      exact ⟨p, hp, h⟩
    · rintro ⟨p, hp, rfl⟩
      exact ⟨_, ⟨p, hp, rfl⟩, by simp [kD, keyEq_str]⟩
  rw [h1]
  by_cases h : s ∈ kvs.map (·.1)
  · rw [if_pos h]
    simp only [h, decide_true, if_true, List.map_map]
    apply List.map_congr_left
    intro p _
    simp only [Function.comp, kD, keyEq_str]
    by_cases h : p.1 = s <;> simp [h]
  · rw [if_neg h]
    simp [h, kD]
theorem sPut_keys {kvs : List (Str × D)} {s : Str} {d : D} {x : Str} : x ∈ (sPut kvs s d).map (·.1) ↔ x = s ∨ x ∈ kvs.map (·.1) := by
  unfold sPut
  split
  · rename_i h
    have e : (kvs.map fun p => if p.1 = s then (p.1, d) else p).map (·.1) = kvs.map (·.1) := by
      rw [List.map_map]
      apply List.map_congr_left
      intro p _
      simp only [Function.comp]
      split <;> rfl
    rw [e]
    constructor
    · exact .inr
    · rintro (rfl | h')
      · exact h
      · exact h'
  · rw [List.map_append, List.mem_append]
    simp
    exact Or.comm
theorem in_dct {kvs : List (Str × D)} {s : Str} : inD (.str s) (.dct (kvs.map kD)) = some (decide (s ∈ kvs.map (·.1))) := by
  unfold inD
  simp only [keysK_str, if_true, dLook_str]
  congr 1
  rw [Bool.eq_iff_iff]
  simp only [decide_eq_true_eq]
  induction kvs with
  | nil => simp [List.lookup]
  | cons p kvs ih =>
    obtain ⟨a, d⟩ := p
    by_cases h : s = a
    · subst h; simp [List.lookup]
    · have h2 : (s == a) = false := by simpa using h
      simp only [List.lookup, h2, List.map_cons, List.mem_cons]
      rw [ih]
      simp [h]
theorem lookup_mem {kvs : List (Str × D)} {s : Str} (h : s ∈ kvs.map (·.1)) : ∃ d, kvs.lookup s = some d ∧ (s, d) ∈ kvs := by
  induction kvs with
  | nil => simp at h
  | cons p kvs ih =>
    obtain ⟨a, d⟩ := p
    by_cases e : s = a
    · subst e; exact ⟨d, by simp [List.lookup], by simp⟩
    · have h2 : (s == a) = false := by simpa using e
      simp [e] at h
      obtain ⟨d', h1, h3⟩ := ih (by simpa using h)
      exact ⟨d', by simp only [List.lookup, h2]; exact h1, by simp [h3]⟩
/-! numbers -/
theorem fits_of {n : Nat} (h : n ≤ 16777216) : fits n = true := decide_eq_true h
theorem atI_nat' {α : Type} {l : List α} {i : Int} {a : α} (h0 : 0 ≤ i) (h : l[i.toNat]? = some a) : atI l i = some a := by
  have hl : i.toNat < l.length := (List.getElem?_eq_some_iff.mp h).1
  unfold atI ixN
  rw [if_pos h0, if_pos (by omega)]
  exact h
end Ev
namespace Ev
open PySem PySem.Spec PyProof.Rows L2
/-! ### single steps on data, for simp -/
@[simp] theorem subS_1 {s : S8} : subS (some s) (.tok 0) (.int 1) = some (.int s.a) := rfl
@[simp] theorem subS_2 {s : S8} : subS (some s) (.tok 0) (.int 2) = some (.int s.b) := rfl
@[simp] theorem subS_3 {s : S8} : subS (some s) (.tok 0) (.int 3) = some (.int s.c) := rfl
@[simp] theorem subS_lst {st : Sst} {ds : List D} {i : D} : subS st (.lst ds) i = subD (.lst ds) i := rfl
@[simp] theorem subS_tup {st : Sst} {ds : List D} {i : D} : subS st (.tup ds) i = subD (.tup ds) i := rfl
@[simp] theorem subS_str {st : Sst} {s : Str} {i : D} : subS st (.str s) i = subD (.str s) i := rfl
@[simp] theorem subS_dct {st : Sst} {ds : List (D × D)} {i : D} : subS st (.dct ds) i = subD (.dct ds) i := rfl
@[simp] theorem subS_obj {st : Sst} {c : Str} {ds : List (Str × D)} {i : D} : subS st (.obj c ds) i = none := rfl
@[simp] theorem subD_lst {ds : List D} {i : Int} : subD (.lst ds) (.int i) = atI ds i := rfl
@[simp] theorem subD_tup {ds : List D} {i : Int} : subD (.tup ds) (.int i) = atI ds i := rfl
@[simp] theorem subD_str {s : Str} {i : Int} : subD (.str s) (.int i) = if fits s.length = true then (atI s.cps.toList i).map (fun c => .str ⟨#[c]⟩) else none := rfl
@[simp] theorem subD_dct {kvs : List (Str × D)} {s : Str} : subD (.dct (kvs.map kD)) (.str s) = kvs.lookup s := by
  show (if keysK (kvs.map kD) (.str s) then dLook (kvs.map kD) (.str s) else none) = _
  rw [keysK_str, dLook_str]; rfl
@[simp] theorem putS_1 {s : S8} {v : Int} : putS (some s) (.int 1) (.int v) = some (some { s with a := v }) := rfl
@[simp] theorem putS_2 {s : S8} {v : Int} : putS (some s) (.int 2) (.int v) = some (some { s with b := v }) := rfl
@[simp] theorem putS_3 {s : S8} {v : Int} : putS (some s) (.int 3) (.int v) = some (some { s with c := v }) := rfl
@[simp] theorem isTok_0 {r : Env} : isTok (some (.fz (.tok 0)) :: r) 0 = true := rfl
@[simp] theorem bin_addI {i j : Int} : binD .Add (.int i) (.int j) = some (.int (i + j)) := rfl
@[simp] theorem bin_subI {i j : Int} : binD .Sub (.int i) (.int j) = some (.int (i - j)) := rfl
@[simp] theorem bin_addL {i j : List D} : binD .Add (.lst i) (.lst j) = if fits (i.length + j.length) = true then some (.lst (i ++ j)) else none := rfl
@[simp] theorem bin_addS {i j : Str} : binD .Add (.str i) (.str j) = if fits (i.length + j.length) = true then some (.str (i ++ j)) else none := rfl
@[simp] theorem bin_addT {i j : List D} : binD .Add (.tup i) (.tup j) = if fits (i.length + j.length) = true then some (.tup (i ++ j)) else none := rfl
theorem bin_mulR {i j : Int} (h1 : -(2 ^ 64) < j) (h2 : j < 2 ^ 64) : binD .Mult (.int i) (.int j) = some (.int (i * j)) := by
  show (if cMul i j then some (D.int (i * j)) else none) = _
  rw [if_pos (by unfold cMul; simp; omega)]
theorem bin_mulL {i j : Int} (h1 : -(2 ^ 64) < i) (h2 : i < 2 ^ 64) : binD .Mult (.int i) (.int j) = some (.int (i * j)) := by
  show (if cMul i j then some (D.int (i * j)) else none) = _
  rw [if_pos (by unfold cMul; simp; omega)]
theorem bin_mod {i j : Int} (h : j ≠ 0) : binD .Mod (.int i) (.int j) = some (.int (i.fmod j)) := by
  show (if j = 0 then none else some (D.int (i.fmod j))) = _
  rw [if_neg h]
theorem bin_div {i j : Int} (h : j ≠ 0) (h2 : j.natAbs < 1073741824) : binD .FloorDiv (.int i) (.int j) = some (.int (i.fdiv j)) := by
  show (if cDiv j then some (D.int (i.fdiv j)) else none) = _
  rw [if_pos (by unfold cDiv; simp [h, h2])]
theorem bin_pow {i j : Int} (h : 0 ≤ j) (h2 : j ≤ 1000000) (h3 : i.natAbs < 2 ^ 64) : binD .Pow (.int i) (.int j) = some (.int (i ^ j.toNat)) := by
  show (if cPow i j then some (D.int (i ^ j.toNat)) else none) = _
  rw [if_pos (by unfold cPow; simp [h, h2, h3])]
@[simp] theorem bi_lenL {ds : List D} : biD .len [.lst ds] = some (.int ds.length) := rfl
@[simp] theorem bi_lenT {ds : List D} : biD .len [.tup ds] = some (.int ds.length) := rfl
@[simp] theorem bi_lenD {ds : List (D × D)} : biD .len [.dct ds] = some (.int ds.length) := rfl
@[simp] theorem bi_lenS {s : Str} : biD .len [.str s] = if fits s.length = true then some (.int s.length) else none := rfl
@[simp] theorem bi_listL {ds : List D} : biD .list [.lst ds] = some (.lst ds) := rfl
@[simp] theorem bi_listT {ds : List D} : biD .list [.tup ds] = some (.lst ds) := rfl
@[simp] theorem bi_tupL {ds : List D} : biD .tuple [.lst ds] = some (.tup ds) := rfl
@[simp] theorem bi_tupT {ds : List D} : biD .tuple [.tup ds] = some (.tup ds) := rfl
@[simp] theorem bi_sortL {ds : List D} : biD .sorted [.lst ds] = (sortD ds).map .lst := rfl
@[simp] theorem bi_sortT {ds : List D} : biD .sorted [.tup ds] = (sortD ds).map .lst := rfl
@[simp] theorem bi_int {i : Int} : biD .int [.int i] = some (.int i) := rfl
@[simp] theorem bi_abs {i : Int} : biD .abs [.int i] = some (.int (if i < 0 then -i else i)) := rfl
@[simp] theorem bi_all {ds : List D} : biD .all [.lst ds] = (bools ds).map fun bs => .bl (bs.all id) := rfl
@[simp] theorem bi_any {ds : List D} : biD .any [.lst ds] = (bools ds).map fun bs => .bl (bs.any id) := rfl
@[simp] theorem bi_minS {i j : Str} : biD .min [.str i, .str j] = some (.str (if ltS j i then j else i)) := rfl
@[simp] theorem bi_maxS {i j : Str} : biD .max [.str i, .str j] = some (.str (if ltS i j then j else i)) := rfl
theorem bools_map {α : Type} (p : α → Bool) : ∀ l : List α, bools (l.map fun a => D.bl (p a)) = some (l.map p)
  | [] => rfl
  | a :: l => by
    show (match bools (l.map fun a => D.bl (p a)) with
      | some bs => some (p a :: bs)
      | none => none) = _
    rw [bools_map p l]
    rfl
@[simp] theorem rn_bools {α : Type} {p : α → Bool} {l : List α} {P : List Bool → Prop} : Rn (bools (l.map fun a => D.bl (p a))) P ↔ P (l.map p) := by
  rw [bools_map]; simp
@[simp] theorem dctOf_nil {acc : List (D × D)} : dctOf acc [] [] = some acc := by unfold dctOf; rfl
theorem all_map {α : Type} (p : α → Bool) (l : List α) : biD .all [.lst (l.map fun a => D.bl (p a))] = some (.bl (l.all p)) := by
  rw [bi_all, bools_map]
  simp [List.all_map]
@[simp] theorem cmp_eq {a b : D} : cmpD .Eq a b = pEq a b := rfl
@[simp] theorem cmp_ne {a b : D} : cmpD .NotEq a b = (pEq a b).map (!·) := rfl
@[simp] theorem cmp_in {a b : D} : cmpD .In a b = inD a b := rfl
@[simp] theorem cmp_nin {a b : D} : cmpD .NotIn a b = (inD a b).map (!·) := rfl
theorem pCmp_int {f : PyData → PyData → Bool} {a b : Int} : pCmp f (.int a) (.int b) = some (f (.int a) (.int b)) := by
  unfold pCmp
  simp only [toP]
  rw [if_pos (by simp [PySem.W.alike, PyData.eqv, PyData.depth])]
@[simp] theorem cmp_ltI {a b : Int} : cmpD .Lt (.int a) (.int b) = some (decide (a < b)) := by
  show pCmp PySem.W.dataLt (.int a) (.int b) = _
  rw [pCmp_int, PySem.W.dataLt_int]
@[simp] theorem cmp_gtI {a b : Int} : cmpD .Gt (.int a) (.int b) = some (decide (b < a)) := by
  show pCmp (fun p q => PySem.W.dataLt q p) (.int a) (.int b) = _
  rw [pCmp_int, PySem.W.dataLt_int]
@[simp] theorem cmp_leI {a b : Int} : cmpD .LtE (.int a) (.int b) = some (decide (a ≤ b)) := by
  show pCmp (fun p q => !PySem.W.dataLt q p) (.int a) (.int b) = _
  rw [pCmp_int, PySem.W.dataLt_int]
  by_cases h : b < a
  · have : ¬ a ≤ b := by omega
    simp [h, this]
  · have : a ≤ b := by omega
    simp [h, this]
@[simp] theorem cmp_geI {a b : Int} : cmpD .GtE (.int a) (.int b) = some (decide (b ≤ a)) := by
  show pCmp (fun p q => !PySem.W.dataLt p q) (.int a) (.int b) = _
  rw [pCmp_int, PySem.W.dataLt_int]
  by_cases h : a < b
  · have : ¬ b ≤ a := by omega
    simp [h, this]
  · have : b ≤ a := by omega
    simp [h, this]
@[simp] theorem it_ofL {ds : List D} : itD .of [.lst ds] = some ds := rfl
@[simp] theorem it_ofT {ds : List D} : itD .of [.tup ds] = some ds := rfl
@[simp] theorem it_ofS {s : Str} : itD .of [.str s] = some (strOf s) := rfl
@[simp] theorem it_r1 {n : Int} : itD .range1 [.int n] = rangeD 0 n := rfl
@[simp] theorem it_r2 {m n : Int} : itD .range2 [.int m, .int n] = rangeD m n := rfl
theorem range_nat {n : Nat} (h : n < 2 ^ 62) : rangeD 0 (n : Int) = some ((List.range n).map fun i => .int (i : Nat)) := by
  unfold rangeD
  rw [if_pos (by simp; omega)]
  simp
theorem range_from {m n : Nat} (h : n < 2 ^ 62) (h2 : m < 2 ^ 62) : rangeD (m : Int) (n : Int) = some ((List.range (n - m)).map fun i => .int ((m + i : Nat) : Int)) := by
  unfold rangeD
  rw [if_pos (by simp; omega)]
  congr 1
  rw [show ((n : Int) - m).toNat = n - m from by omega]
  apply List.map_congr_left
  intro i _
  simp
@[simp] theorem it_enL {ds : List D} : itD .enum [.lst ds] = some (ds.mapIdx fun i d => .tup [.int i, d]) := rfl
@[simp] theorem it_enT {ds : List D} : itD .enum [.tup ds] = some (ds.mapIdx fun i d => .tup [.int i, d]) := rfl
@[simp] theorem it_zipL {xs ys : List D} : itD .zip [.lst xs, .lst ys] = some (List.zipWith (fun x y => .tup [x, y]) xs ys) := rfl
@[simp] theorem it_zipT {xs ys : List D} : itD .zip [.tup xs, .tup ys] = some (List.zipWith (fun x y => .tup [x, y]) xs ys) := rfl
@[simp] theorem pickA_0 {ds : List D} : pickA ds [] = some [] := rfl
@[simp] theorem pickA_1 {ds : List D} {i : Nat} {r : List Nat} {P : List D → Prop} : Rn (pickA ds (i :: r)) P ↔ Rn ds[i]? fun d => Rn (pickA ds r) fun q => P (d :: q) := by
  conv => lhs; rw [pickA]
  cases ds[i]? with
  | none => simp
  | some d => cases pickA ds r <;> simp
@[simp] theorem rn_map {α β : Type} {o : Option α} {f : α → β} {P : β → Prop} : Rn (o.map f) P ↔ Rn o fun a => P (f a) := by
  cases o <;> simp
theorem rn_if {α : Type} {c : Prop} [Decidable c] {a : α} {P : α → Prop} : Rn (if c then some a else none) P ↔ c ∧ P a := by
  by_cases h : c <;> simp [h]
theorem ixN_nat {n : Nat} {i : Int} (h0 : 0 ≤ i) (h1 : i < n) : ixN n i = some i.toNat := by
  unfold ixN
  rw [if_pos h0, if_pos h1]
theorem rn_if' {α : Type} {c : Prop} [Decidable c] {a : Option α} {P : α → Prop} : Rn (if c then a else none) P ↔ c ∧ Rn a P := by
  by_cases h : c <;> simp [h]
@[simp] theorem isi_nil {cs : List Str} {d : D} : isiAny cs d [] = some false := rfl
theorem isi_cons {cs : List Str} {d : D} {t : Str} {ts : List Str} {b : Bool} (h : isiD cs d t = some b) : isiAny cs d (t :: ts) = if b = true then some true else isiAny cs d ts := by
  show (match isiD cs d t with
    | some true => some true
    | some false => isiAny cs d ts
    | none => none) = _
  rw [h]
  cases b <;> rfl
end Ev
/-! EvC0 -/
namespace Ev
open PySem PySem.Spec PyProof.Rows L2
/-! ### the compiled defs; cs: the own classes -/
def f_is_list (cs : List Str) : FnI := ⟨1, 1, [Is.ret (Ir.isi (Ir.v 0) ["list", "tuple"] cs)]⟩
def f_is_whole (cs : List Str) : FnI := ⟨1, 1, [Is.ret (Ir.and (Ir.isi (Ir.v 0) ["int"] cs) (Ir.not (Ir.isi (Ir.v 0) ["bool"] cs)))]⟩
def f_is_number (cs : List Str) : FnI := ⟨1, 1, [Is.ret (Ir.and (Ir.call "is_whole" [Ir.v 0] [0]) (Ir.cmp (CmpOp.GtE) (Ir.v 0) (Ir.k (D.int 0))))]⟩
def f_is_row (cs : List Str) : FnI := ⟨2, 2, [Is.ret (Ir.and (Ir.call "is_list" [Ir.v 0] [0]) (Ir.cmp (CmpOp.Eq) (Ir.bi (Bi.len) [Ir.v 0]) (Ir.v 1)))]⟩
def f_is_name (cs : List Str) : FnI := ⟨1, 2, [Is.ret (Ir.and (Ir.isi (Ir.v 0) ["str"] cs) (Ir.and (Ir.chain (CmpOp.Lt) (CmpOp.Lt) (Ir.k (D.int 0)) (Ir.bi (Bi.len) [Ir.v 0]) (Ir.k (D.int 9))) (Ir.bi (Bi.all) [Ir.lc [1] (Tg.n 1) (Im.of) [Ir.v 0] [] (Ir.cmp (CmpOp.In) (Ir.v 1) (Ir.k (D.str "abcdefghijklmnopqrstuvwxyz")))])))]⟩
def f_is_index (cs : List Str) : FnI := ⟨2, 2, [Is.ret (Ir.and (Ir.call "is_number" [Ir.v 0] [0]) (Ir.cmp (CmpOp.Lt) (Ir.v 0) (Ir.v 1)))]⟩
def f_first_bad_place (cs : List Str) : FnI := ⟨1, 4, [Is.set (Tg.n 1) (Ir.dct []), Is.iff (Ir.or (Ir.not (Ir.call "is_list" [Ir.v 0] [0])) (Ir.cmp (CmpOp.Eq) (Ir.bi (Bi.len) [Ir.v 0]) (Ir.k (D.int 0)))) [Is.ret (Ir.k (D.int 0))] [], Is.for (Tg.t [Tg.n 2, Tg.n 3]) (Im.enum) [Ir.v 0] [Is.iff (Ir.or (Ir.not (Ir.call "is_name" [Ir.v 3] [0])) (Ir.cmp (CmpOp.In) (Ir.v 3) (Ir.v 1))) [Is.ret (Ir.v 2)] [], Is.put 1 (Ir.v 3) (Ir.k (D.bl true))], Is.ret (Ir.k (D.non))]⟩
def f_Ground_is_pair (cs : List Str) : FnI := ⟨2, 3, [Is.iff (Ir.or (Ir.not (Ir.call "is_row" [Ir.v 1, Ir.k (D.int 2)] [0, 1])) (Ir.not (Ir.bi (Bi.all) [Ir.lc [2] (Tg.n 2) (Im.of) [Ir.v 1] [] (Ir.call "is_place" [Ir.v 0, Ir.v 2] [0, 1])]))) [Is.ret (Ir.k (D.bl false))] [], Is.ret (Ir.cmp (CmpOp.NotEq) (Ir.sub (Ir.v 1) (Ir.k (D.int 0))) (Ir.sub (Ir.v 1) (Ir.k (D.int 1))))]⟩
def f_is_place (cs : List Str) : FnI := ⟨2, 2, [Is.ret (Ir.and (Ir.isi (Ir.v 1) ["str"] cs) (Ir.cmp (CmpOp.In) (Ir.v 1) (Ir.fld (Ir.v 0) "own_places" ["Ground"])))]⟩
def f_check_place (cs : List Str) : FnI := ⟨2, 2, [Is.iff (Ir.not (Ir.call "is_place" [Ir.v 0, Ir.v 1] [0, 1])) [Is.dead] []]⟩
def f_check_ground (cs : List Str) : FnI := ⟨1, 1, [Is.iff (Ir.not (Ir.isi (Ir.v 0) ["Ground"] cs)) [Is.dead] []]⟩
def f_without_of (cs : List Str) : FnI := ⟨2, 5, [Is.set (Tg.n 2) (Ir.lc [3] (Tg.n 3) (Im.of) [Ir.fld (Ir.v 0) "own_places" ["Ground"]] [Ir.cmp (CmpOp.NotEq) (Ir.v 3) (Ir.v 1)] (Ir.v 3)), Is.ret (Ir.new "Ground" [Ir.v 2, Ir.lc [4] (Tg.n 4) (Im.of) [Ir.fld (Ir.v 0) "own_paths" ["Ground"]] [Ir.cmp (CmpOp.NotIn) (Ir.v 1) (Ir.v 4)] (Ir.v 4)])]⟩
def f_holds (cs : List Str) : FnI := ⟨2, 2, [Is.ret (Ir.lst [(false, Ir.v 1), (true, Ir.sub (Ir.fld (Ir.v 0) "own_around" ["Ground"]) (Ir.v 1))])]⟩
def f_folds_of (cs : List Str) : FnI := ⟨3, 4, [Is.ret (Ir.and (Ir.cmp (CmpOp.NotEq) (Ir.v 1) (Ir.v 2)) (Ir.bi (Bi.all) [Ir.lc [3] (Tg.n 3) (Im.of) [Ir.call "holds" [Ir.v 0, Ir.v 1] [0, 1]] [] (Ir.cmp (CmpOp.In) (Ir.v 3) (Ir.call "holds" [Ir.v 0, Ir.v 2] [0, 1]))]))]⟩
def f_gone_through (cs : List Str) : FnI := ⟨2, 4, [Is.iff (Ir.not (Ir.call "is_list" [Ir.v 1] [0])) [Is.ret (Ir.tup [(false, Ir.k (D.int 0)), (false, Ir.v 0)])] [], Is.for (Tg.t [Tg.n 2, Tg.n 3]) (Im.enum) [Ir.v 1] [Is.iff (Ir.or (Ir.not (Ir.call "is_row" [Ir.v 3, Ir.k (D.int 2)] [0, 1])) (Ir.or (Ir.not (Ir.call "is_place" [Ir.v 0, Ir.sub (Ir.v 3) (Ir.k (D.int 0))] [0, 1])) (Ir.not (Ir.call "is_place" [Ir.v 0, Ir.sub (Ir.v 3) (Ir.k (D.int 1))] [0, 1])))) [Is.ret (Ir.tup [(false, Ir.v 2), (false, Ir.v 0)])] [], Is.iff (Ir.not (Ir.call "folds_of" [Ir.v 0, Ir.sub (Ir.v 3) (Ir.k (D.int 0)), Ir.sub (Ir.v 3) (Ir.k (D.int 1))] [0, 1, 2])) [Is.ret (Ir.tup [(false, Ir.v 2), (false, Ir.v 0)])] [], Is.set (Tg.n 0) (Ir.call "without_of" [Ir.v 0, Ir.sub (Ir.v 3) (Ir.k (D.int 0))] [0, 1])], Is.ret (Ir.tup [(false, Ir.k (D.non)), (false, Ir.v 0)])]⟩
def f_rest_of (cs : List Str) : FnI := ⟨2, 4, [Is.ex (Ir.call "check_ground" [Ir.v 0] [0]), Is.set (Tg.t [Tg.n 2, Tg.n 3]) (Ir.call "gone_through" [Ir.v 0, Ir.v 1] [0, 1]), Is.iff (Ir.notN (Ir.v 2)) [Is.dead] [], Is.ret (Ir.v 3)]⟩
def f_shade (cs : List Str) : FnI := ⟨3, 5, [Is.for (Tg.t [Tg.n 3, Tg.n 4]) (Im.of) [Ir.cut (Ir.v 0) none (some (Ir.v 1))] [Is.iff (Ir.cmp (CmpOp.Eq) (Ir.v 2) (Ir.v 3)) [Is.set (Tg.n 2) (Ir.v 4)] []], Is.ret (Ir.v 2)]⟩
def f_check_level (cs : List Str) : FnI := ⟨3, 3, [Is.ex (Ir.call "rest_of" [Ir.v 0, Ir.v 1] [0, 1]), Is.iff (Ir.not (Ir.call "is_index" [Ir.v 2, Ir.bin (Operator.Add) (Ir.bi (Bi.len) [Ir.v 1]) (Ir.k (D.int 1))] [0, 1])) [Is.dead] []]⟩
def f_shadow (cs : List Str) : FnI := ⟨4, 4, [Is.ex (Ir.call "check_level" [Ir.v 0, Ir.v 1, Ir.v 2] [0, 1, 2]), Is.ex (Ir.call "check_place" [Ir.v 0, Ir.v 3] [0, 1]), Is.ret (Ir.call "shade" [Ir.v 1, Ir.v 2, Ir.v 3] [0, 1, 2])]⟩
def f_follow (cs : List Str) : FnI := ⟨4, 4, [Is.ret (Ir.call "shadow" [Ir.v 0, Ir.v 1, Ir.v 2, Ir.v 3] [0, 1, 2, 3])]⟩
def flaw_stream (cs : List Str) : FnI := ⟨1, 1, [Is.ret (Ir.lst [(false, Ir.bi (Bi.list) [Ir.v 0]), (false, Ir.k (D.int 0)), (false, Ir.k (D.int 0)), (false, Ir.k (D.int 19))])]⟩
def flaw_draw (cs : List Str) : FnI := ⟨2, 5, [Is.put 0 (Ir.k (D.int 2)) (Ir.bin (Operator.Add) (Ir.sub (Ir.v 0) (Ir.k (D.int 2))) (Ir.k (D.int 1))), Is.whl (Ir.and (Ir.cmp (CmpOp.Eq) (Ir.sub (Ir.v 0) (Ir.k (D.int 1))) (Ir.k (D.int 0))) (Ir.ncells 0)) [Is.set (Tg.n 3) (Ir.bi (Bi.abs) [Ir.spop 0]), Is.put 0 (Ir.k (D.int 3)) (Ir.bin (Operator.Mod) (Ir.bi (Bi.int) [Ir.bin (Operator.Add) (Ir.bin (Operator.Add) (Ir.bin (Operator.Mult) (Ir.sub (Ir.v 0) (Ir.k (D.int 3))) (Ir.k (D.int 6151))) (Ir.v 3)) (Ir.k (D.int 7))]) (Ir.k (D.int 2147483629))), Is.put 0 (Ir.k (D.int 1)) (Ir.ite (Ir.cmp (CmpOp.GtE) (Ir.v 3) (Ir.bin (Operator.Pow) (Ir.k (D.int 10)) (Ir.k (D.int 18)))) (Ir.v 3) (Ir.k (D.int 0)))], Is.iff (Ir.cmp (CmpOp.Gt) (Ir.sub (Ir.v 0) (Ir.k (D.int 1))) (Ir.k (D.int 0))) [Is.set (Tg.n 4) (Ir.bin (Operator.Mod) (Ir.bi (Bi.int) [Ir.sub (Ir.v 0) (Ir.k (D.int 1))]) (Ir.v 1)), Is.put 0 (Ir.k (D.int 1)) (Ir.bin (Operator.FloorDiv) (Ir.sub (Ir.v 0) (Ir.k (D.int 1))) (Ir.v 1)), Is.ret (Ir.v 4)] [], Is.set (Tg.n 2) (Ir.bin (Operator.Mod) (Ir.bi (Bi.int) [Ir.bin (Operator.Pow) (Ir.bin (Operator.Add) (Ir.bin (Operator.Add) (Ir.sub (Ir.v 0) (Ir.k (D.int 3))) (Ir.bin (Operator.Mult) (Ir.k (D.int 8191)) (Ir.sub (Ir.v 0) (Ir.k (D.int 2))))) (Ir.k (D.int 50021))) (Ir.k (D.int 5))]) (Ir.k (D.int 2147483587))), Is.ret (Ir.bin (Operator.Mod) (Ir.bin (Operator.Mod) (Ir.bi (Bi.int) [Ir.bin (Operator.Pow) (Ir.bin (Operator.Add) (Ir.bin (Operator.Add) (Ir.bin (Operator.Mult) (Ir.v 2) (Ir.k (D.int 40009))) (Ir.bin (Operator.Mult) (Ir.k (D.int 20011)) (Ir.sub (Ir.v 0) (Ir.k (D.int 2))))) (Ir.k (D.int 31))) (Ir.k (D.int 3))]) (Ir.k (D.int 1000000009))) (Ir.v 1))]⟩
def flaw_pick (cs : List Str) : FnI := ⟨2, 2, [Is.ret (Ir.sub (Ir.v 1) (Ir.call "_law_draw" [Ir.v 0, Ir.bi (Bi.len) [Ir.v 1]] [0, 1]))]⟩
def flaw_mixed (cs : List Str) : FnI := ⟨2, 5, [Is.par [3, 4] [Ir.bi (Bi.list) [Ir.v 1], Ir.lst []], Is.for (Tg.n 2) (Im.range1) [Ir.bi (Bi.len) [Ir.v 3]] [Is.appPop 4 3 (Ir.call "_law_draw" [Ir.v 0, Ir.bi (Bi.len) [Ir.v 3]] [0, 1])], Is.ret (Ir.v 4)]⟩
def flaw_same (cs : List Str) : FnI := ⟨2, 4, [Is.iff (Ir.isi (Ir.v 1) ["list", "tuple"] cs) [Is.iff (Ir.or (Ir.cmp (CmpOp.NotEq) (Ir.isi (Ir.v 0) ["list"] cs) (Ir.isi (Ir.v 1) ["list"] cs)) (Ir.cmp (CmpOp.NotEq) (Ir.isi (Ir.v 0) ["tuple"] cs) (Ir.isi (Ir.v 1) ["tuple"] cs))) [Is.ret (Ir.k (D.bl false))] [], Is.ret (Ir.and (Ir.cmp (CmpOp.Eq) (Ir.bi (Bi.len) [Ir.v 0]) (Ir.bi (Bi.len) [Ir.v 1])) (Ir.bi (Bi.all) [Ir.lc [2, 3] (Tg.t [Tg.n 2, Tg.n 3]) (Im.zip) [Ir.v 0, Ir.v 1] [] (Ir.call "_law_same" [Ir.v 2, Ir.v 3] [0, 1])]))] [], Is.iff (Ir.isi (Ir.v 1) ["dict"] cs) [Is.ret (Ir.and (Ir.isi (Ir.v 0) ["dict"] cs) (Ir.call "_law_same" [Ir.bi (Bi.list) [Ir.meth "items" (Ir.v 0) []], Ir.bi (Bi.list) [Ir.meth "items" (Ir.v 1) []]] [0, 1]))] [], Is.iff (Ir.or (Ir.isi (Ir.v 1) ["bool"] cs) (Ir.isi (Ir.v 0) ["bool"] cs)) [Is.ret (Ir.and (Ir.isi (Ir.v 1) ["bool"] cs) (Ir.and (Ir.isi (Ir.v 0) ["bool"] cs) (Ir.cmp (CmpOp.Eq) (Ir.v 0) (Ir.v 1))))] [], Is.iff (Ir.or (Ir.isN (Ir.v 1)) (Ir.isN (Ir.v 0))) [Is.ret (Ir.and (Ir.isN (Ir.v 1)) (Ir.isN (Ir.v 0)))] [], Is.iff (Ir.or (Ir.cmp (CmpOp.NotEq) (Ir.isi (Ir.v 1) ["int"] cs) (Ir.isi (Ir.v 0) ["int"] cs)) (Ir.cmp (CmpOp.NotEq) (Ir.isi (Ir.v 1) ["str"] cs) (Ir.isi (Ir.v 0) ["str"] cs))) [Is.ret (Ir.k (D.bl false))] [], Is.ret (Ir.and (Ir.not (Ir.isi (Ir.v 0) ["list", "tuple", "dict"] cs)) (Ir.cmp (CmpOp.Eq) (Ir.v 0) (Ir.v 1)))]⟩
def flaw_loose (cs : List Str) : FnI := ⟨2, 4, [Is.iff (Ir.isi (Ir.v 1) ["list", "tuple"] cs) [Is.set (Tg.n 2) (Ir.lc [3] (Tg.n 3) (Im.of) [Ir.v 1] [] (Ir.call "_law_loose" [Ir.v 0, Ir.v 3] [0, 1])), Is.ret (Ir.ite (Ir.cmp (CmpOp.Eq) (Ir.call "_law_draw" [Ir.v 0, Ir.k (D.int 2)] [0, 1]) (Ir.k (D.int 0))) (Ir.v 2) (Ir.bi (Bi.tuple) [Ir.v 2]))] [], Is.ret (Ir.v 1)]⟩
def flaw_names (cs : List Str) : FnI := ⟨2, 8, [Is.par [3, 4] [Ir.lst [], Ir.k (D.str "abcdefghijklmnopqrstuvwxyz")], Is.for (Tg.n 2) (Im.range1) [Ir.v 1] [Is.set (Tg.n 5) (Ir.join (Ir.k (D.str "")) (Ir.lc [7] (Tg.n 7) (Im.range1) [Ir.bin (Operator.Add) (Ir.k (D.int 1)) (Ir.call "_law_draw" [Ir.v 0, Ir.call "_law_pick" [Ir.v 0, Ir.lst [(false, Ir.k (D.int 1)), (false, Ir.k (D.int 1)), (false, Ir.k (D.int 3))]] [0, 1]] [0, 1])] [] (Ir.call "_law_pick" [Ir.v 0, Ir.v 4] [0, 1]))), Is.for (Tg.n 6) (Im.range1) [Ir.bin (Operator.Add) (Ir.bi (Bi.len) [Ir.v 3]) (Ir.k (D.int 1))] [Is.iff (Ir.cmp (CmpOp.In) (Ir.v 5) (Ir.v 3)) [Is.set (Tg.n 5) (Ir.bin (Operator.Add) (Ir.bin (Operator.Add) (Ir.cut (Ir.v 5) none (some (Ir.k (D.int 3)))) (Ir.sub (Ir.v 4) (Ir.bin (Operator.FloorDiv) (Ir.v 6) (Ir.k (D.int 26))))) (Ir.sub (Ir.v 4) (Ir.bin (Operator.Mod) (Ir.v 6) (Ir.k (D.int 26)))))] []], Is.app 3 (Ir.v 5)], Is.ret (Ir.v 3)]⟩
def flaw_around (cs : List Str) : FnI := ⟨2, 3, [Is.ret (Ir.bi (Bi.sorted) [Ir.lc [2] (Tg.n 2) (Im.of) [Ir.sub (Ir.v 0) (Ir.k (D.int 1))] [Ir.cmp (CmpOp.In) (Ir.v 1) (Ir.v 2)] (Ir.ite (Ir.cmp (CmpOp.Eq) (Ir.sub (Ir.v 2) (Ir.k (D.int 1))) (Ir.v 1)) (Ir.sub (Ir.v 2) (Ir.k (D.int 0))) (Ir.sub (Ir.v 2) (Ir.k (D.int 1))))])]⟩
def flaw_folds (cs : List Str) : FnI := ⟨3, 5, [Is.set (Tg.n 3) (Ir.bin (Operator.Add) (Ir.lst [(false, Ir.v 2)]) (Ir.call "_law_around" [Ir.v 0, Ir.v 2] [0, 1])), Is.ret (Ir.and (Ir.cmp (CmpOp.NotEq) (Ir.v 1) (Ir.v 2)) (Ir.bi (Bi.all) [Ir.lc [4] (Tg.n 4) (Im.of) [Ir.bin (Operator.Add) (Ir.lst [(false, Ir.v 1)]) (Ir.call "_law_around" [Ir.v 0, Ir.v 1] [0, 1])] [] (Ir.cmp (CmpOp.In) (Ir.v 4) (Ir.v 3))]))]⟩
def flaw_less (cs : List Str) : FnI := ⟨2, 4, [Is.ret (Ir.tup [(false, Ir.lc [2] (Tg.n 2) (Im.of) [Ir.sub (Ir.v 0) (Ir.k (D.int 0))] [Ir.cmp (CmpOp.NotEq) (Ir.v 2) (Ir.v 1)] (Ir.v 2)), (false, Ir.lc [3] (Tg.n 3) (Im.of) [Ir.sub (Ir.v 0) (Ir.k (D.int 1))] [Ir.cmp (CmpOp.NotIn) (Ir.v 1) (Ir.v 3)] (Ir.v 3))])]⟩
def flaw_all_folds (cs : List Str) : FnI := ⟨1, 4, [Is.set (Tg.n 1) (Ir.lst []), Is.for (Tg.n 2) (Im.of) [Ir.sub (Ir.v 0) (Ir.k (D.int 0))] [Is.ext 1 (Ir.lc [3] (Tg.n 3) (Im.of) [Ir.sub (Ir.v 0) (Ir.k (D.int 0))] [Ir.call "_law_folds" [Ir.v 0, Ir.v 2, Ir.v 3] [0, 1, 2]] (Ir.tup [(false, Ir.v 2), (false, Ir.v 3)]))], Is.ret (Ir.v 1)]⟩
def flaw_down (cs : List Str) : FnI := ⟨2, 4, [Is.par [2, 3] [Ir.lst [], Ir.call "_law_all_folds" [Ir.v 1] [0]], Is.whl (Ir.cmp (CmpOp.NotEq) (Ir.v 3) (Ir.lst [])) [Is.app 2 (Ir.call "_law_pick" [Ir.v 0, Ir.v 3] [0, 1]), Is.set (Tg.n 1) (Ir.call "_law_less" [Ir.v 1, Ir.sub (Ir.sub (Ir.v 2) (Ir.neg (Ir.k (D.int 1)))) (Ir.k (D.int 0))] [0, 1]), Is.set (Tg.n 3) (Ir.call "_law_all_folds" [Ir.v 1] [0])], Is.ret (Ir.tup [(false, Ir.v 2), (false, Ir.v 1)])]⟩
def flaw_shadow (cs : List Str) : FnI := ⟨3, 5, [Is.for (Tg.t [Tg.n 3, Tg.n 4]) (Im.of) [Ir.cut (Ir.v 0) none (some (Ir.v 1))] [Is.set (Tg.n 2) (Ir.ite (Ir.cmp (CmpOp.Eq) (Ir.v 2) (Ir.v 3)) (Ir.v 4) (Ir.v 2))], Is.ret (Ir.v 2)]⟩
def flaw_folding (cs : List Str) : FnI := ⟨2, 9, [Is.set (Tg.n 2) (Ir.bi (Bi.sorted) [Ir.call "_law_names" [Ir.v 0, Ir.bin (Operator.Add) (Ir.k (D.int 1)) (Ir.call "_law_draw" [Ir.v 0, Ir.v 1] [0, 1])] [0, 1]]), Is.par [4, 5] [Ir.call "_law_mixed" [Ir.v 0, Ir.v 2] [0, 1], Ir.lst []], Is.for (Tg.n 3) (Im.range2) [Ir.k (D.int 1), Ir.bi (Bi.len) [Ir.v 4]] [Is.set (Tg.n 6) (Ir.sub (Ir.v 4) (Ir.call "_law_draw" [Ir.v 0, Ir.v 3] [0, 1])), Is.set (Tg.n 7) (Ir.lc [8] (Tg.n 8) (Im.of) [Ir.cut (Ir.v 4) none (some (Ir.v 3))] [Ir.or (Ir.cmp (CmpOp.Eq) (Ir.v 8) (Ir.v 6)) (Ir.cmp (CmpOp.In) (Ir.tup [(false, Ir.bi (Bi.min) [Ir.v 8, Ir.v 6]), (false, Ir.bi (Bi.max) [Ir.v 8, Ir.v 6])]) (Ir.v 5))] (Ir.v 8)), Is.for (Tg.n 8) (Im.of) [Ir.v 7] [Is.iff (Ir.or (Ir.cmp (CmpOp.Eq) (Ir.v 8) (Ir.v 6)) (Ir.and (Ir.cmp (CmpOp.Lt) (Ir.bin (Operator.Sub) (Ir.bin (Operator.Add) (Ir.bi (Bi.len) [Ir.v 5]) (Ir.bi (Bi.len) [Ir.v 4])) (Ir.v 3)) (Ir.k (D.int 13))) (Ir.cmp (CmpOp.Eq) (Ir.call "_law_draw" [Ir.v 0, Ir.k (D.int 2)] [0, 1]) (Ir.k (D.int 0))))) [Is.app 5 (Ir.tup [(false, Ir.bi (Bi.min) [Ir.v 8, Ir.sub (Ir.v 4) (Ir.v 3)]), (false, Ir.bi (Bi.max) [Ir.v 8, Ir.sub (Ir.v 4) (Ir.v 3)])])] []]], Is.ret (Ir.tup [(false, Ir.v 2), (false, Ir.bi (Bi.sorted) [Ir.v 5])])]⟩
def flaw_far (cs : List Str) : FnI := ⟨2, 8, [Is.par [3, 4] [Ir.dct [(Ir.v 1, Ir.k (D.int 0))], Ir.lst [(false, Ir.v 1)]], Is.for (Tg.n 2) (Im.range2) [Ir.k (D.int 1), Ir.bi (Bi.len) [Ir.sub (Ir.v 0) (Ir.k (D.int 0))]] [Is.set (Tg.n 5) (Ir.lst []), Is.for (Tg.n 6) (Im.of) [Ir.v 4] [Is.ext 5 (Ir.lc [7] (Tg.n 7) (Im.of) [Ir.call "_law_around" [Ir.v 0, Ir.v 6] [0, 1]] [Ir.cmp (CmpOp.NotIn) (Ir.v 7) (Ir.v 3)] (Ir.v 7))], Is.upd 3 (Ir.bi (Bi.dict) [Ir.lc [6] (Tg.n 6) (Im.of) [Ir.v 5] [] (Ir.tup [(false, Ir.v 6), (false, Ir.v 2)])]), Is.set (Tg.n 4) (Ir.v 5)], Is.ret (Ir.v 3)]⟩
def flaw_made (cs : List Str) : FnI := ⟨2, 4, [Is.set (Tg.n 2) (Ir.lc [3] (Tg.n 3) (Im.of) [Ir.sub (Ir.v 1) (Ir.k (D.int 1))] [] (Ir.call "_law_loose" [Ir.v 0, Ir.bi (Bi.tuple) [Ir.call "_law_mixed" [Ir.v 0, Ir.bi (Bi.list) [Ir.v 3]] [0, 1]]] [0, 1])), Is.ret (Ir.new "Ground" [Ir.call "_law_loose" [Ir.v 0, Ir.call "_law_mixed" [Ir.v 0, Ir.sub (Ir.v 1) (Ir.k (D.int 0))] [0, 1]] [0, 1], Ir.call "_law_loose" [Ir.v 0, Ir.call "_law_mixed" [Ir.v 0, Ir.v 2] [0, 1]] [0, 1]])]⟩
def flaw_run_right (cs : List Str) : FnI := ⟨4, 16, [Is.set (Tg.n 4) (Ir.bi (Bi.len) [Ir.v 3]), Is.set (Tg.n 5) (Ir.sub (Ir.lc [8] (Tg.n 8) (Im.of) [Ir.sub (Ir.v 1) (Ir.k (D.int 0))] [Ir.cmp (CmpOp.NotIn) (Ir.v 8) (Ir.lc [15] (Tg.n 15) (Im.of) [Ir.v 3] [] (Ir.sub (Ir.v 15) (Ir.k (D.int 0))))] (Ir.v 8)) (Ir.k (D.int 0))), Is.set (Tg.n 6) (Ir.lc [8] (Tg.n 8) (Im.of) [Ir.sub (Ir.v 1) (Ir.k (D.int 0))] [Ir.cmp (CmpOp.NotEq) (Ir.v 8) (Ir.v 5)] (Ir.v 8)), Is.iff (Ir.cmp (CmpOp.Eq) (Ir.v 6) (Ir.lst [])) [Is.ret (Ir.k (D.bl true))] [], Is.par [8, 9] [Ir.call "_law_pick" [Ir.v 0, Ir.v 6] [0, 1], Ir.call "_law_draw" [Ir.v 0, Ir.k (D.int 2)] [0, 1]], Is.for (Tg.n 7) (Im.range2) [Ir.k (D.int 1), Ir.bi (Bi.len) [Ir.sub (Ir.v 1) (Ir.k (D.int 0))]] [Is.par [4, 13] [Ir.bin (Operator.Sub) (Ir.v 4) (Ir.k (D.int 1)), Ir.call "_law_shadow" [Ir.v 3, Ir.bin (Operator.Sub) (Ir.v 4) (Ir.k (D.int 1)), Ir.v 8] [0, 1, 2]], Is.set (Tg.n 10) (Ir.lst [(false, Ir.call "follow" [Ir.v 2, Ir.call "_law_loose" [Ir.v 0, Ir.v 3] [0, 1], Ir.v 4, Ir.v 8] [0, 1, 2, 3]), (false, Ir.call "shadow" [Ir.v 8, Ir.v 4, Ir.bi (Bi.list) [Ir.v 3], Ir.v 2] [3, 2, 1, 0])]), Is.iff (Ir.or (Ir.not (Ir.call "_law_same" [Ir.v 10, Ir.lst [(false, Ir.v 13), (false, Ir.v 13)]] [0, 1])) (Ir.and (Ir.cmp (CmpOp.NotEq) (Ir.v 13) (Ir.v 5)) (Ir.cmp (CmpOp.NotIn) (Ir.v 13) (Ir.call "_law_around" [Ir.v 1, Ir.v 5] [0, 1])))) [Is.ret (Ir.k (D.bl false))] [], Is.set (Tg.n 5) (Ir.v 13), Is.iff (Ir.cmp (CmpOp.Eq) (Ir.v 5) (Ir.v 8)) [Is.ret (Ir.k (D.bl true))] [], Is.set (Tg.n 11) (Ir.lc [14] (Tg.n 14) (Im.of) [Ir.bin (Operator.Add) (Ir.lst [(false, Ir.v 8)]) (Ir.call "_law_around" [Ir.v 1, Ir.v 8] [0, 1])] [Ir.cmp (CmpOp.NotEq) (Ir.v 14) (Ir.v 5)] (Ir.v 14)), Is.set (Tg.n 12) (Ir.call "_law_far" [Ir.v 1, Ir.v 5] [0, 1]), Is.set (Tg.n 8) (Ir.ite (Ir.cmp (CmpOp.Eq) (Ir.v 9) (Ir.k (D.int 0))) (Ir.call "_law_pick" [Ir.v 0, Ir.v 11] [0, 1]) (Ir.sub (Ir.sub (Ir.bi (Bi.sorted) [Ir.lc [14] (Tg.n 14) (Im.of) [Ir.v 11] [] (Ir.tup [(false, Ir.neg (Ir.sub (Ir.v 12) (Ir.v 14))), (false, Ir.v 14)])]) (Ir.k (D.int 0))) (Ir.k (D.int 1))))], Is.ret (Ir.k (D.bl false))]⟩
/-- what all laws have -/
structure Com (tb : Str × Option Str → Option FnI) (pr : PrimF) (cs : List Str) : Prop where
  p : ∀ k x, pr k (x, none) = none
  gr : cs.contains "Ground" = true
  is_list : tb ("is_list", none) = some (f_is_list cs)
  is_whole : tb ("is_whole", none) = some (f_is_whole cs)
  is_number : tb ("is_number", none) = some (f_is_number cs)
  is_row : tb ("is_row", none) = some (f_is_row cs)
  is_name : tb ("is_name", none) = some (f_is_name cs)
  is_index : tb ("is_index", none) = some (f_is_index cs)
  first_bad_place : tb ("first_bad_place", none) = some (f_first_bad_place cs)
  is_place : tb ("is_place", none) = some (f_is_place cs)
  check_place : tb ("check_place", none) = some (f_check_place cs)
  check_ground : tb ("check_ground", none) = some (f_check_ground cs)
  law_draw : tb ("_law_draw", none) = some (flaw_draw cs)
  law_pick : tb ("_law_pick", none) = some (flaw_pick cs)
  law_mixed : tb ("_law_mixed", none) = some (flaw_mixed cs)
  law_same : tb ("_law_same", none) = some (flaw_same cs)
  law_loose : tb ("_law_loose", none) = some (flaw_loose cs)
  law_names : tb ("_law_names", none) = some (flaw_names cs)
  law_around : tb ("_law_around", none) = some (flaw_around cs)
/-- folds -/
structure Flds (tb : Str × Option Str → Option FnI) (pr : PrimF) (cs : List Str) : Prop extends Com tb pr cs where
  without_of : tb ("without_of", none) = some (f_without_of cs)
  holds : tb ("holds", none) = some (f_holds cs)
  folds_of : tb ("folds_of", none) = some (f_folds_of cs)
  gone_through : tb ("gone_through", none) = some (f_gone_through cs)
  rest_of : tb ("rest_of", none) = some (f_rest_of cs)
  shade : tb ("shade", none) = some (f_shade cs)
  check_level : tb ("check_level", none) = some (f_check_level cs)
  shadow : tb ("shadow", none) = some (f_shadow cs)
  follow : tb ("follow", none) = some (f_follow cs)
  law_folds : tb ("_law_folds", none) = some (flaw_folds cs)
  law_less : tb ("_law_less", none) = some (flaw_less cs)
  law_all_folds : tb ("_law_all_folds", none) = some (flaw_all_folds cs)
  law_down : tb ("_law_down", none) = some (flaw_down cs)
  law_shadow : tb ("_law_shadow", none) = some (flaw_shadow cs)
  law_folding : tb ("_law_folding", none) = some (flaw_folding cs)
  law_far : tb ("_law_far", none) = some (flaw_far cs)
  law_made : tb ("_law_made", none) = some (flaw_made cs)
  law_run_right : tb ("_law_run_right", none) = some (flaw_run_right cs)
end Ev
/-! EvC1 -/
namespace Ev
open PySem PySem.Spec PyProof.Rows L2
section
variable {cf : CallF} {env : Env} {st : Sst}
theorem rn_spop {i : Nat} {s : S8} {P : D × Sst → Prop} (h : lookV env i = some (.tok 0)) {c : Int} {r : List Int} (hc : s.cells = c :: r) (hl : s.cells.length ≤ 16777216) (q : P (.int c, some { s with cells := r })) : Rn (evI cf env (.spop i) (some s)) P := by
  have ht : isTok env i = true := by unfold isTok; rw [h]; rfl
  refine ⟨_, ?_, q⟩
  unfold evI
  rw [if_pos ht]
  simp only [hc]
  rw [if_pos (by rw [← hc]; exact fits_of hl)]
theorem rn_ncells {i : Nat} {s : S8} {P : D × Sst → Prop} (h : lookV env i = some (.tok 0)) (q : P (.bl (!s.cells.isEmpty), some s)) : Rn (evI cf env (.ncells i) (some s)) P := by
  have ht : isTok env i = true := by unfold isTok; rw [h]; rfl
  refine ⟨_, ?_, q⟩
  unfold evI
  rw [if_pos ht]
end
/-! ### draws -/
def drawN : Int := 2 ^ 40
/-- the stream after at most n draws -/
def Ok (n : Int) (st : Sst) : Prop := ∃ s, st = some s ∧ 0 ≤ s.a ∧ 0 ≤ s.b ∧ s.b ≤ n ∧ 0 ≤ s.c ∧ s.c < 2147483648 ∧ s.cells.length ≤ 16777216
theorem Ok.mono {n m : Int} {st : Sst} (h : Ok n st) (l : n ≤ m) : Ok m st := by
  obtain ⟨s, e, a, b, c, d⟩ := h
  exact ⟨s, e, a, b, by omega, d⟩
section
variable {tb : Str × Option Str → Option FnI} {pr : PrimF} {k : Nat} {cs : List Str}
theorem fmod_lt {a b : Int} (hb : 0 < b) : 0 ≤ a.fmod b ∧ a.fmod b < b := ⟨Int.fmod_nonneg_of_pos a hb, Int.fmod_lt_of_pos a hb⟩
theorem draw_rn (C : Com tb pr cs) {n m : Int} {st : Sst} (h : Ok n st) (hn : n < 2 ^ 40) (hm : 0 < m) (hm2 : m < 1073741824) {P : T × Sst → Prop}
    (q : ∀ d st', 0 ≤ d → d < m → Ok (n + 1) st' → P (.fz (.int d), st')) : Rn (callF tb pr (k + 1) ("_law_draw", none) [.tok 0, .int m] st) P := by
  refine rn_fn (C.p _ _) C.law_draw rfl ?_
  obtain ⟨s, rfl, h1, h2, h3, h4, h5, h6⟩ := h
  simp [flaw_draw, us, usB, usL, usLB, frz_eq]
  let I : Nat → Env → Sst → Prop := fun j env st => ∃ s x3, env = [some (.fz (.tok 0)), some (.fz (.int m)), none, x3, none] ∧ st = some s ∧ 0 ≤ s.a ∧ 0 ≤ s.b ∧ s.b ≤ n + 1 ∧ 0 ≤ s.c ∧ s.c < 2147483648 ∧ s.cells.length ≤ 16777216 ∧ s.cells.length = j
  refine whl_inv I (n := s.cells.length) ⟨_, none, rfl, rfl, h1, by simp; omega, by simp; omega, h4, h5, h6, rfl⟩ ?_
  rintro j _ _ ⟨s, x3, rfl, rfl, h1, h2, h3, h4, h5, h6, rfl⟩
  have b64 : ∀ x : Int, 0 ≤ x → x < 2 ^ 64 → x.natAbs < 2 ^ 64 := fun x h0 h1 => by omega
  have tail : 0 < s.a ∨ s.a ≤ 0 := by omega
  simp [pEq_int, us, usB]
  refine ⟨fun ha => rn_ncells rfl ?_, fun ha => ?_⟩
  · simp [us, usB, usL, usLB, frz_eq, ownT]
    refine ⟨fun hc => ?_, fun hc => ⟨fun h => by omega, fun _ => ?_⟩⟩
    · obtain ⟨c, r, e⟩ := List.exists_cons_of_ne_nil hc
      refine rn_spop rfl e h6 ?_
      rw [e] at h6
      simp only [List.length_cons] at h6
      simp
      refine ⟨_, bin_mulR (by decide) (by decide), ?_⟩
      simp
      refine ⟨_, bin_mod (by decide), ?_⟩
      have f1 := @fmod_lt (s.c * 6151 + (if c < 0 then -c else c) + 7) 2147483629 (by decide)
      have hcc : 0 ≤ (if c < 0 then -c else c) := by split <;> omega
      simp [us, usB, usL, usLB, frz_eq]
      refine ⟨_, bin_pow (by decide) (by decide) (by decide), ?_⟩
      simp
      refine ⟨fun h => ?_, fun h => ?_⟩
      · exact ⟨r.length, by rw [e]; simp, _, _, rfl, rfl, hcc, h2, h3, f1.1, by simp only; omega, by simp only; omega, rfl⟩
      · exact ⟨r.length, by rw [e]; simp, _, _, rfl, rfl, Int.le_refl _, h2, h3, f1.1, by simp only; omega, by simp only; omega, rfl⟩
    · refine ⟨_, bin_mulL (by decide) (by decide), ?_⟩
      simp
      refine ⟨_, bin_pow (by decide) (by decide) (b64 _ (by omega) (by omega)), ?_⟩
      simp
      refine ⟨_, bin_mod (by decide), ?_⟩
      have f1 := @fmod_lt ((s.c + 8191 * s.b + 50021) ^ 5) 2147483587 (by decide)
      refine ⟨_, bin_mulR (by decide) (by decide), ?_⟩
      refine ⟨_, bin_mulL (by decide) (by decide), ?_⟩
      simp
      refine ⟨_, bin_pow (by decide) (by decide) (b64 _ (by omega) (by omega)), ?_⟩
      simp
      refine ⟨_, bin_mod (by decide), ?_⟩
      refine ⟨_, bin_mod (by omega), ?_⟩
      exact q _ _ (fmod_lt hm).1 (fmod_lt hm).2 ⟨s, rfl, h1, h2, h3, h4, h5, h6⟩
  · simp [us, usB, usL, usLB, frz_eq, ownT]
    refine ⟨fun hp => ?_, fun h => absurd h1 (by omega)⟩
    refine ⟨_, bin_mod (by omega), ?_⟩
    refine ⟨_, bin_div (by omega) (by omega), ?_⟩
    simp
    refine q _ _ (fmod_lt hm).1 (fmod_lt hm).2 ⟨_, rfl, ?_, h2, h3, h4, h5, h6⟩
    exact Int.fdiv_nonneg h1 (by omega)
/-! ### picks, mixed lists -/
theorem cons_erase {α : Type} {y : α} : ∀ {l : List α} {i : Nat}, l[i]? = some y → (y :: l.eraseIdx i).Perm l
  | [], i, h => by simp at h
  | a :: l, 0, h => by
    simp at h
    subst h
    simp
  | a :: l, i + 1, h => by
    simp only [List.getElem?_cons_succ] at h
    rw [List.eraseIdx_cons_succ]
    exact (List.Perm.swap a y _).trans ((cons_erase h).cons a)
theorem pick_rn (C : Com tb pr cs) {n : Int} {ds : List D} {st : Sst} (h : Ok n st) (hn : n < 2 ^ 40) (h0 : ds ≠ []) (hl : ds.length < 1073741824) {P : T × Sst → Prop}
    (q : ∀ d st', d ∈ ds → Ok (n + 1) st' → P (.fz d, st')) : Rn (callF tb pr (k + 2) ("_law_pick", none) [.tok 0, .lst ds] st) P := by
  refine rn_fn (C.p _ _) C.law_pick rfl ?_
  have hp := List.length_pos_iff.mpr h0
  simp [flaw_pick, us, usB, usL, usLB, frz_eq]
  refine draw_rn C h hn (by omega) (by omega) fun d st' d0 d1 h' => ?_
  simp
  obtain ⟨x, e⟩ : ∃ x, ds[d.toNat]? = some x := ⟨ds[d.toNat]'(by omega), List.getElem?_eq_getElem _⟩
  refine ⟨x, atI_nat' d0 e, ?_⟩
  exact q x st' (List.mem_of_getElem? e) h'
theorem pickS_rn (C : Com tb pr cs) {n : Int} {s : Str} {st : Sst} (h : Ok n st) (hn : n < 2 ^ 40) (h0 : 0 < s.length) (hl : s.length ≤ 16777216) {P : T × Sst → Prop}
    (q : ∀ c st', c ∈ s.cps.toList → Ok (n + 1) st' → P (.fz (.str ⟨#[c]⟩), st')) : Rn (callF tb pr (k + 2) ("_law_pick", none) [.tok 0, .str s] st) P := by
  refine rn_fn (C.p _ _) C.law_pick rfl ?_
  simp [flaw_pick, us, usB, usL, usLB, frz_eq]
  refine rn_if.mpr ⟨fits_of hl, ?_⟩
  refine draw_rn C h hn (by omega) (by omega) fun d st' d0 d1 h' => ?_
  simp
  refine rn_if'.mpr ⟨fits_of hl, ?_⟩
  have hz : s.length = s.cps.toList.length := by simp [Str.length]
  obtain ⟨x, e⟩ : ∃ x, s.cps.toList[d.toNat]? = some x := ⟨s.cps.toList[d.toNat]'(by omega), List.getElem?_eq_getElem _⟩
  simp
  refine ⟨x, atI_nat' d0 e, ?_⟩
  exact q x st' (List.mem_of_getElem? e) h'
theorem mixed_rn (C : Com tb pr cs) {n : Int} {d : D} {ds : List D} {st : Sst} (hd : d = .lst ds ∨ d = .tup ds) (h : Ok n st) (hn : n + ds.length < 2 ^ 40) (hl : ds.length ≤ 16777216) {P : T × Sst → Prop}
    (q : ∀ ds' st', ds'.Perm ds → Ok (n + ds.length) st' → P (.ol ds', st')) : Rn (callF tb pr (k + 2) ("_law_mixed", none) [.tok 0, d] st) P := by
  refine rn_fn (C.p _ _) C.law_mixed rfl ?_
  have hb : biD .list [d] = some (.lst ds) := by rcases hd with rfl | rfl <;> rfl
  simp [flaw_mixed, us, usB, usL, usLB, usS, frz_eq]
  refine ⟨_, hb, ?_⟩
  simp [ownT, us, usB, usL, usLB, usS, frz_eq]
  refine ⟨by decide, ?_⟩
  refine ⟨_, range_nat (by omega), ?_⟩
  refine for_inv (fun i env st => ∃ x2 left found, env = [some (.fz (.tok 0)), some (.fz d), x2, some (.ol left), some (.ol found)] ∧ Ok (n + i) st ∧ left.length + i = ds.length ∧ found.length = i ∧ (found ++ left).Perm ds)
    ⟨none, ds, [], rfl, by simpa using h, rfl, rfl, by simp⟩ ?_ ?_
  · rintro i x _ st hx ⟨x2, left, found, rfl, h1, h2, h4, h3⟩
    have hi : i < ds.length := by
      have := (List.getElem?_eq_some_iff.mp hx).1
      simpa using this
    simp [us, usB, usL, usLB, usS, frz_eq]
    refine draw_rn C h1 (by omega) (by omega) (by omega) fun e st' d0 d1 h' => ?_
    simp
    refine ⟨_, ixN_nat d0 d1, ?_⟩
    obtain ⟨y, ey⟩ : ∃ y, left[e.toNat]? = some y := ⟨left[e.toNat]'(by omega), List.getElem?_eq_getElem _⟩
    refine ⟨y, ey, ⟨fits_of (by omega), fits_of (by omega)⟩, ?_⟩
    refine ⟨_, _, _, ⟨rfl, rfl, rfl⟩, h'.mono (by omega), ?_, ?_, ?_⟩
    · rw [List.length_eraseIdx, if_pos (by omega)]
      omega
    · simp [h4]
    · refine List.Perm.trans ?_ h3
      rw [List.append_assoc]
      refine List.Perm.append_left _ ?_
      exact cons_erase ey
  · rintro _ st ⟨x2, left, found, rfl, h1, h2, h4, h3⟩
    simp [us, usB]
    obtain rfl : left = [] := by simpa using h2
    exact q _ _ (by simpa using h3) (by simpa using h1)
end
end Ev
/-! EvC2 -/
namespace Ev
open PySem PySem.Spec PyProof.Rows L2
/-! ### isinstance, of data -/
theorem isi_lt_str {cs : List Str} {s : Str} : isiAny cs (.str s) ["list", "tuple"] = some false := by kernel_rfl
theorem isi_lt_int {cs : List Str} {s : Int} : isiAny cs (.int s) ["list", "tuple"] = some false := by kernel_rfl
theorem isi_lt_non {cs : List Str} : isiAny cs .non ["list", "tuple"] = some false := by kernel_rfl
theorem isi_lt_lst {cs : List Str} {s : List D} : isiAny cs (.lst s) ["list", "tuple"] = some true := by kernel_rfl
theorem isi_lt_tup {cs : List Str} {s : List D} : isiAny cs (.tup s) ["list", "tuple"] = some true := by kernel_rfl
theorem isi_list_lst {cs : List Str} {s : List D} : isiAny cs (.lst s) ["list"] = some true := by kernel_rfl
theorem isi_list_tup {cs : List Str} {s : List D} : isiAny cs (.tup s) ["list"] = some false := by kernel_rfl
theorem isi_list_str {cs : List Str} {s : Str} : isiAny cs (.str s) ["list"] = some false := by kernel_rfl
theorem isi_tuple_lst {cs : List Str} {s : List D} : isiAny cs (.lst s) ["tuple"] = some false := by kernel_rfl
theorem isi_tuple_tup {cs : List Str} {s : List D} : isiAny cs (.tup s) ["tuple"] = some true := by kernel_rfl
theorem isi_tuple_str {cs : List Str} {s : Str} : isiAny cs (.str s) ["tuple"] = some false := by kernel_rfl
theorem isi_dict_str {cs : List Str} {s : Str} : isiAny cs (.str s) ["dict"] = some false := by kernel_rfl
theorem isi_dict_lst {cs : List Str} {s : List D} : isiAny cs (.lst s) ["dict"] = some false := by kernel_rfl
theorem isi_dict_tup {cs : List Str} {s : List D} : isiAny cs (.tup s) ["dict"] = some false := by kernel_rfl
theorem isi_dict_int {cs : List Str} {s : Int} : isiAny cs (.int s) ["dict"] = some false := by kernel_rfl
theorem isi_ltd_str {cs : List Str} {s : Str} : isiAny cs (.str s) ["list", "tuple", "dict"] = some false := by kernel_rfl
theorem isi_ltd_int {cs : List Str} {s : Int} : isiAny cs (.int s) ["list", "tuple", "dict"] = some false := by kernel_rfl
theorem isi_bool_str {cs : List Str} {s : Str} : isiAny cs (.str s) ["bool"] = some false := by kernel_rfl
theorem isi_bool_int {cs : List Str} {s : Int} : isiAny cs (.int s) ["bool"] = some false := by kernel_rfl
theorem isi_bool_bl {cs : List Str} {s : Bool} : isiAny cs (.bl s) ["bool"] = some true := by kernel_rfl
theorem isi_int_str {cs : List Str} {s : Str} : isiAny cs (.str s) ["int"] = some false := by kernel_rfl
theorem isi_int_int {cs : List Str} {s : Int} : isiAny cs (.int s) ["int"] = some true := by kernel_rfl
theorem isi_str_str {cs : List Str} {s : Str} : isiAny cs (.str s) ["str"] = some true := by kernel_rfl
theorem isi_str_int {cs : List Str} {s : Int} : isiAny cs (.int s) ["str"] = some false := by kernel_rfl
theorem isi_str_lst {cs : List Str} {s : List D} : isiAny cs (.lst s) ["str"] = some false := by kernel_rfl
theorem isi_str_tup {cs : List Str} {s : List D} : isiAny cs (.tup s) ["str"] = some false := by kernel_rfl
theorem isi_ground {cs : List Str} {fs : List (Str × D)} (h : cs.contains "Ground" = true) : isiAny cs (.obj "Ground" fs) ["Ground"] = some true := by
  have e : isiD cs (.obj "Ground" fs) "Ground" = some true := by
    show (if cs.contains ("Ground" : Str) = true then some (("Ground" : Str) == ("Ground" : Str)) else none) = some true
    rw [if_pos h]
    congr 1
  rw [isi_cons e]
  rfl
/-! ### lists and tuples at will -/
section
variable {tb : Str × Option Str → Option FnI} {pr : PrimF} {k : Nat} {cs : List Str}
theorem loose_str (C : Com tb pr cs) {s : Str} {st : Sst} {P : T × Sst → Prop} (q : P (.fz (.str s), st)) : Rn (callF tb pr (k + 1) ("_law_loose", none) [.tok 0, .str s] st) P := by
  refine rn_fn (C.p _ _) C.law_loose rfl ?_
  simp [flaw_loose, us, usB, usL, usLB, frz_eq]
  refine ⟨_, isi_lt_str, ?_⟩
  simpa using q
/-- item by item -/
inductive All2 {α β : Type} (R : α → β → Prop) : List α → List β → Prop where
  | nil : All2 R [] []
  | cons {a : α} {b : β} {as : List α} {bs : List β} (h : R a b) (t : All2 R as bs) : All2 R (a :: as) (b :: bs)
theorem All2.length {α β : Type} {R : α → β → Prop} {as : List α} {bs : List β} (h : All2 R as bs) : as.length = bs.length := by
  induction h with
  | nil => rfl
  | cons _ _ ih => simp [ih]
theorem All2.app {α β : Type} {R : α → β → Prop} {as as' : List α} {bs bs' : List β} (h : All2 R as bs) (h' : All2 R as' bs') : All2 R (as ++ as') (bs ++ bs') := by
  induction h with
  | nil => exact h'
  | cons a _ ih => exact .cons a ih
theorem loose_seq (C : Com tb pr cs) {R : D → D → Prop} {c : Nat} {d : D} {ds : List D} (hd : d = .lst ds ∨ d = .tup ds) (hl : ds.length ≤ 16777216)
    (hr : ∀ x ∈ ds, ∀ (n : Int) (st : Sst) (P : T × Sst → Prop), Ok n st → n + c < 2 ^ 40 → (∀ x' st', R x x' → Ok (n + c) st' → P (.fz x', st')) → Rn (callF tb pr (k + 1) ("_law_loose", none) [.tok 0, x] st) P)
    {n : Int} {st : Sst} (h : Ok n st) (hn : n + (c * ds.length + 1 : Nat) < 2 ^ 40) {P : T × Sst → Prop}
    (q : ∀ ds' d' st', (d' = .lst ds' ∨ d' = .tup ds') → All2 R ds ds' → Ok (n + (c * ds.length + 1 : Nat)) st' → P (.fz d', st')) : Rn (callF tb pr (k + 2) ("_law_loose", none) [.tok 0, d] st) P := by
  refine rn_fn (C.p _ _) C.law_loose rfl ?_
  have hi : isiAny cs d ["list", "tuple"] = some true := by rcases hd with rfl | rfl <;> first | exact isi_lt_lst | exact isi_lt_tup
  have hit : itD .of [d] = some ds := by rcases hd with rfl | rfl <;> rfl
  simp [flaw_loose, us, usB, usL, usLB, frz_eq]
  refine ⟨_, hi, ?_⟩
  simp [us, usB, usL, usLB, frz_eq]
  refine ⟨_, hit, ?_⟩
  have mm : ∀ i, i + 1 ≤ ds.length → c * i + c ≤ c * ds.length := fun i hi => by
    have := Nat.mul_le_mul_left c hi
    rw [Nat.mul_add, Nat.mul_one] at this
    exact this
  refine lc_inv (fun i acc st => Ok (n + (c * i : Nat)) st ∧ ∃ r, ds = r ++ ds.drop i ∧ r.length = i ∧ All2 R r acc) ⟨by simpa using h, [], by simp, rfl, .nil⟩ ?_ ?_
  · rintro i x acc st hx ⟨h1, r, e, hrl, h2⟩
    have hi : i < ds.length := (List.getElem?_eq_some_iff.mp hx).1
    have := mm i hi
    simp
    refine hr x (List.mem_of_getElem? hx) _ st _ h1 (by omega) fun x' st' hx' h' => ⟨?_, r ++ [x], ?_, ?_, ?_⟩
    · exact h'.mono (by rw [Int.mul_add]; simp only [Int.natCast_mul, Int.mul_one]; omega)
    · rw [List.append_assoc]
      rw [show [x] ++ List.drop (i + 1) ds = List.drop i ds by
        rw [List.drop_eq_getElem_cons hi]
        rw [List.getElem?_eq_getElem hi] at hx
        rw [Option.some.inj hx]
        rfl]
      exact e
    · simp [hrl]
    · exact h2.app (.cons hx' .nil)
  · rintro acc st ⟨h1, r, e, hrl, h2⟩
    rw [List.drop_length, List.append_nil] at e
    subst e
    simp [ownT]
    refine ⟨fits_of (by rw [← h2.length]; exact hl), ?_⟩
    refine draw_rn C h1 (by omega) (by omega) (by omega) fun e st' d0 d1 h' => ?_
    simp [pEq_int]
    refine ⟨fun _ => ?_, fun _ => ?_⟩
    · exact q acc (.lst acc) st' (.inl rfl) h2 (h'.mono (by omega))
    · exact q acc (.tup acc) st' (.inr rfl) h2 (h'.mono (by omega))
end
end Ev
/-! EvC3 -/
namespace Ev
open PySem PySem.Spec PyProof.Rows L2
/-! ### names -/
def Nm (s : Str) : Prop := 0 < s.length ∧ s.length < 9 ∧ ∀ c ∈ s.cps.toList, 97 ≤ c ∧ c ≤ 122
theorem len_cps (s : Str) : s.length = s.cps.toList.length := by simp [Str.length]
theorem Nm.ok {s : Str} (h : Nm s) : Sok s := by
  unfold Sok PyData.strOk
  rw [Array.all_eq_true_iff_forall_mem]
  intro c hc
  have := (h.2.2 c (by simpa using hc)).2
  simp
  omega
def abc : Str := "abcdefghijklmnopqrstuvwxyz"
theorem abc_cps : abc.cps.toList = List.range' 97 26 := by kernel_rfl
theorem abc_len : abc.length = 26 := by rw [len_cps, abc_cps]; rfl
theorem abc_at {i : Nat} (h : i < 26) : atI abc.cps.toList (i : Int) = some (97 + i) := by
  refine atI_nat' (by omega) ?_
  rw [abc_cps, Int.toNat_natCast, List.getElem?_range' (by simpa using h)]
  simp
theorem cps_app {x y : Str} : (x ++ y).cps.toList = x.cps.toList ++ y.cps.toList := TL.tl_append x y
theorem str_ext' {x y : Str} (h : x.cps.toList = y.cps.toList) : x = y := TL.ext_tl h
theorem cps_cut {s : Str} {n : Nat} : (cutS s none (some (n : Int))).cps.toList = s.cps.toList.take n := by
  unfold cutS
  simp only [HT.sIx_none, HT.sIx_nat]
  rw [List.drop_zero, Nat.sub_zero]
  show List.take _ _ = _
  rw [len_cps, List.take_eq_take_iff]
  omega
theorem join_none : ∀ {ss : List Str}, (Txt.join "" ss).cps.toList = (ss.map fun s => s.cps.toList).flatten
  | ss => by
    have h := TL.tl_join "" ss
    rw [← TL.join_eq] at h
    have e : (Txt.join "" ss).cps.toList = TL.joinL [] (ss.map TL.tl) := h
    rw [e]
    have : ∀ l : List (List Nat), TL.joinL [] l = l.flatten := by
      intro l
      induction l with
      | nil => rfl
      | cons p l ih =>
        cases l with
        | nil => simp [TL.joinL]
        | cons q r =>
          show p ++ ([] ++ TL.joinL [] (q :: r)) = _
          rw [ih]
          simp
    exact this _
/-- distinct ones of a list are no more than it has -/
theorem nodup_len {α : Type} [DecidableEq α] : ∀ {l' l : List α}, l'.Nodup → (∀ x ∈ l', x ∈ l) → l'.length ≤ l.length
  | [], _, _, _ => Nat.zero_le _
  | a :: l', l, h, hs => by
    have ha : a ∈ l := hs a (by simp)
    rw [List.nodup_cons] at h
    have := nodup_len (l := l.erase a) h.2 fun x hx => by
      have hne : x ≠ a := fun z => h.1 (z ▸ hx)
      exact (List.mem_erase_of_ne hne).mpr (hs x (by simp [hx]))
    rw [List.length_erase_of_mem ha] at this
    have := List.length_pos_of_mem ha
    simp only [List.length_cons]
    omega
theorem txts_map : ∀ ss : List Str, txts (ss.map .str) = some ss
  | [] => rfl
  | s :: ss => by
    show (match txts (ss.map .str) with
      | some q => some (s :: q)
      | none => none) = _
    rw [txts_map ss]
theorem add_str {x y : Str} (h : x.length + y.length ≤ 16777216) : binD .Add (.str x) (.str y) = some (.str (x ++ y)) := by
  rw [bin_addS, if_pos (fits_of h)]
/-- the candidates behind a drawn name w -/
def Cand (w : List Nat) (j : Nat) (p : Str) : Prop := (j = 0 ∧ p.cps.toList = w) ∨ (0 < j ∧ w.length < p.length ∧ p.cps.toList.getLast? = some (97 + (j - 1)))
theorem Cand.ne {w : List Nat} {i j : Nat} {p q : Str} (h : Cand w i p) (h' : Cand w j q) (n : i ≠ j) : p ≠ q := by
  rintro rfl
  rcases h with ⟨h1, h2⟩ | ⟨h1, h2, h3⟩ <;> rcases h' with ⟨k1, k2⟩ | ⟨k1, k2, k3⟩
  · omega
  · rw [len_cps, h2] at k2; omega
  · rw [len_cps, k2] at h2; omega
  · rw [h3] at k3
    have := Option.some.inj k3
    omega
section
variable {tb : Str × Option Str → Option FnI} {pr : PrimF} {k : Nat} {cs : List Str}
theorem names_rn (C : Com tb pr cs) {n : Int} {m : Nat} {st : Sst} (h : Ok n st) (hn : n + 40 < 2 ^ 40) (hm : m ≤ 8) {P : T × Sst → Prop}
    (q : ∀ (ss : List Str) st', ss.length = m → ss.Nodup → (∀ s ∈ ss, Nm s) → Ok (n + 40) st' → P (.ol (ss.map .str), st')) : Rn (callF tb pr (k + 3) ("_law_names", none) [.tok 0, .int m] st) P := by
  refine rn_fn (C.p _ _) C.law_names rfl ?_
  simp [flaw_names, us, usB, usL, usLB, usS, frz_eq, ownT]
  refine ⟨by decide, ?_⟩
  refine ⟨_, range_nat (by omega), ?_⟩
  refine for_inv (fun i env st => ∃ x2 x5 x6 ss, env = [some (.fz (.tok 0)), some (.fz (.int m)), x2, some (.ol (ss.map .str)), some (.fz (.str abc)), x5, x6, none] ∧ Ok (n + 5 * i) st ∧ ss.length = i ∧ ss.Nodup ∧ ∀ s ∈ ss, Nm s)
    ⟨none, none, none, [], rfl, by simpa using h, rfl, .nil, by simp⟩ ?_ ?_
  · rintro i x _ st hx ⟨x2, x5, x6, ss, rfl, h1, h2, h3, h4⟩
    have hi : i < m := by
      have := (List.getElem?_eq_some_iff.mp hx).1
      simpa using this
    simp [us, usB, usL, usLB, usS, frz_eq, ownT]
    refine ⟨by decide, pick_rn C h1 (by omega) (by simp) (by simp) fun d st1 hd h5 => ?_⟩
    obtain ⟨v, rfl, v1, v2⟩ : ∃ v : Int, d = .int v ∧ 1 ≤ v ∧ v ≤ 3 := by
      simp at hd
      rcases hd with rfl | rfl
      · exact ⟨1, rfl, by decide, by decide⟩
      · exact ⟨3, rfl, by decide, by decide⟩
    simp
    refine draw_rn C h5 (by omega) (by omega) (by omega) fun e st2 e0 e1 h6 => ?_
    simp
    obtain ⟨L, eL, L1, L2⟩ : ∃ L : Nat, 1 + e = (L : Int) ∧ 1 ≤ L ∧ L ≤ 3 := ⟨(1 + e).toNat, by omega, by omega, by omega⟩
    rw [eL]
    refine ⟨_, range_nat (by omega), ?_⟩
    refine lc_inv (fun j acc st => Ok (n + 5 * i + 2 + j) st ∧ ∃ zs : List Nat, acc = zs.map (fun c => .str ⟨#[c]⟩) ∧ zs.length = j ∧ ∀ c ∈ zs, 97 ≤ c ∧ c ≤ 122) ⟨h6.mono (by simp; omega), [], rfl, rfl, by simp⟩ ?_ ?_
    · rintro j y acc st hy ⟨g1, zs, rfl, g2, g3⟩
      have hj : j < L := by
        have := (List.getElem?_eq_some_iff.mp hy).1
        simpa using this
      simp
      refine pickS_rn C g1 (by omega) (by rw [abc_len]; decide) (by rw [abc_len]; decide) fun c st' hc h' => ?_
      rw [abc_cps] at hc
      simp at hc
      refine ⟨h'.mono (by omega), zs ++ [c], by simp, by simp [g2], ?_⟩
      intro z hz
      rcases List.mem_append.mp hz with hz | hz
      · exact g3 z hz
      · simp at hz; omega
    · rintro acc st3 ⟨g1, zs, rfl, g2, g3⟩
      simp at g2 g1
      obtain ⟨w, hw⟩ : ∃ w : Str, w = Txt.join "" (zs.map fun c => (⟨#[c]⟩ : Str)) := ⟨_, rfl⟩
      have cw : w.cps.toList = zs := by
        rw [hw, join_none, List.map_map]
        have : ∀ l : List Nat, (l.map ((fun s : Str => s.cps.toList) ∘ fun c => (⟨#[c]⟩ : Str))).flatten = l := by
          intro l
          induction l with
          | nil => rfl
          | cons a l ih => rw [List.map_cons, List.flatten_cons, ih]; rfl
        exact this zs
      have hj : joinD (.str "") (.lst (zs.map fun c => D.str ⟨#[c]⟩)) = some (.str w) := by
        have et : txts (zs.map fun c => D.str ⟨#[c]⟩) = some (zs.map fun c => (⟨#[c]⟩ : Str)) := by
          have := txts_map (zs.map fun c => (⟨#[c]⟩ : Str))
          rwa [List.map_map] at this
        unfold joinD
        simp only [et]
        rw [if_pos]
        · rw [hw]
        · refine fits_of ?_
          have : ((zs.map fun c => (⟨#[c]⟩ : Str)).map (·.length)).sum = zs.length := by
            rw [List.map_map]
            have : ∀ l : List Nat, (l.map ((fun s : Str => s.length) ∘ fun c => (⟨#[c]⟩ : Str))).sum = l.length := by
              intro l
              induction l with
              | nil => rfl
              | cons a l ih => rw [List.map_cons, List.sum_cons, ih]; simp [Str.length]; omega
            exact this zs
          rw [this]
          simp [Str.length]
          rw [show (Str.ofString "").cps.size = 0 from by kernel_rfl]
          omega
      refine ⟨fits_of (by simp; omega), ⟨_, hj, ?_⟩⟩
      refine ⟨_, range_nat (n := ss.length + 1) (by omega), ?_⟩
      have hss : ∀ s ∈ ss, Sok s := fun s hs => (h4 s hs).ok
      refine for_inv (fun j env st => ∃ x6 s, env = [some (.fz (.tok 0)), some (.fz (.int m)), some (.fz x), some (.ol (ss.map .str)), some (.fz (.str abc)), some (.fz (.str s)), x6, none] ∧ st = st3 ∧ Nm s ∧ s.length ≤ 5 ∧
          (s ∉ ss ∨ (Cand zs j s ∧ ∃ prev : List Str, prev.length = j ∧ prev.Nodup ∧ ∀ p ∈ prev, p ∈ ss ∧ ∃ i, i < j ∧ Cand zs i p)))
        ⟨x6, w, rfl, rfl, ⟨by rw [len_cps, cw]; omega, by rw [len_cps, cw]; omega, by rw [cw]; exact g3⟩, by rw [len_cps, cw]; omega, .inr ⟨.inl ⟨rfl, cw⟩, [], rfl, .nil, by simp⟩⟩ ?_ ?_
      · rintro j y _ _ hy ⟨z6, s, rfl, rfl, n1, n2, n3⟩
        have hj : j < ss.length + 1 ∧ y = .int j := by
          have := (List.getElem?_eq_some_iff.mp hy).1
          rw [List.getElem?_map] at hy
          simp at this
          simp [this] at hy
          exact ⟨by omega, hy.symm⟩
        obtain ⟨hj, rfl⟩ := hj
        simp [us, usB, usL, usLB, usS, usO, frz_eq, ownT]
        refine ⟨_, in_strs n1.ok hss, ?_⟩
        simp
        refine ⟨fun hin => ?_, fun hin => ?_⟩
        rotate_left
        · exact ⟨_, s, ⟨rfl, rfl⟩, n1, n2, .inl hin⟩
        rcases n3 with n3 | ⟨n3, prev, p1, p2, p3⟩
        · exact absurd hin n3
        have hfd : ((j : Int).fdiv 26) = 0 := by rw [Int.fdiv_eq_ediv_of_nonneg _ (by decide)]; omega
        have hfm : ((j : Int).fmod 26) = j := by rw [Int.fmod_eq_emod_of_nonneg _ (by decide)]; omega
        have hcut : cutD (.str s) none (some 3) = some (.str (cutS s none (some ((3 : Nat) : Int)))) := by
          show (if fits s.length then some (D.str (cutS s none (some 3))) else none) = _
          rw [if_pos (fits_of (by omega))]
          rfl
        have f1 : fits abc.length = true := by rw [abc_len]; decide
        have sub1 : ∀ t : Nat, t < 26 → subD (.str abc) (.int (t : Int)) = some (.str ⟨#[97 + t]⟩) := fun t ht => by
          rw [subD_str, if_pos f1, abc_at ht]
          rfl
        refine ⟨_, hcut, ⟨_, bin_div (by decide) (by decide), ?_⟩⟩
        rw [hfd]
        refine ⟨_, sub1 0 (by omega), ?_⟩
        have hlc : (cutS s none (some ((3 : Nat) : Int))).length = min 3 s.length := by rw [len_cps, cps_cut, List.length_take, len_cps]
        refine ⟨_, add_str (by rw [hlc]; simp [Str.length]; omega), ⟨_, bin_mod (by decide), ?_⟩⟩
        rw [hfm]
        refine ⟨_, sub1 j (by omega), ?_⟩
        obtain ⟨t, ht⟩ : ∃ t : Str, t = cutS s none (some ((3 : Nat) : Int)) ++ ⟨#[97 + 0]⟩ ++ ⟨#[97 + j]⟩ := ⟨_, rfl⟩
        have ct : t.cps.toList = s.cps.toList.take 3 ++ [97] ++ [97 + j] := by
          rw [ht, cps_app, cps_app, cps_cut]
        have lt : t.length = min 3 s.length + 2 := by
          rw [len_cps, ct, len_cps]
          simp
        have hs0 := n1.1
        refine ⟨_, add_str ?_, ⟨_, t, ⟨by rw [ht], rfl⟩, ⟨by omega, by omega, ?_⟩, by omega, .inr ⟨.inr ⟨by omega, ?_, ?_⟩, s :: prev, by simp [p1], ?_, ?_⟩⟩⟩
        · have : (cutS s none (some ((3 : Nat) : Int)) ++ (⟨#[97 + 0]⟩ : Str)).length = min 3 s.length + 1 := by
            rw [len_cps, cps_app, cps_cut, len_cps]
            simp
          rw [this]
          simp [Str.length]
          omega
        · intro c hc
          rw [ct] at hc
          simp only [List.mem_append, List.mem_singleton] at hc
          rcases hc with (hc | rfl) | rfl
          · exact n1.2.2 c (List.mem_of_mem_take hc)
          · omega
          · omega
        · rw [lt]
          rcases n3 with ⟨_, n3⟩ | ⟨_, n3, _⟩
          · have : s.length = zs.length := by rw [len_cps, n3]
            omega
          · omega
        · rw [ct]
          simp
        · rw [List.nodup_cons]
          refine ⟨fun hp => ?_, p2⟩
          obtain ⟨_, i', hi', hc⟩ := p3 s hp
          exact hc.ne n3 (by omega) rfl
        · intro p hp
          rcases List.mem_cons.mp hp with rfl | hp
          · exact ⟨hin, j, by omega, n3⟩
          · obtain ⟨a, i', hi', hc⟩ := p3 p hp
            exact ⟨a, i', by omega, hc⟩
      · rintro _ _ ⟨z6, s, rfl, rfl, n1, n2, n3⟩
        have hni : s ∉ ss := by
          rcases n3 with n3 | ⟨n3, prev, p1, p2, p3⟩
          · exact n3
          · have := nodup_len (l := ss) p2 fun p hp => (p3 p hp).1
            simp at p1
            omega
        simp [us, usB, usL, usLB, usS, usO, frz_eq, ownT]
        refine ⟨fits_of (by omega), ⟨_, _, _, ss ++ [s], ⟨rfl, by simp, rfl, rfl⟩, g1.mono (by omega), by simp [h2], ?_, ?_⟩⟩
        · rw [List.nodup_append]
          exact ⟨h3, by simp, by simp; rintro a ha rfl; exact hni ha⟩
        · intro t ht
          rcases List.mem_append.mp ht with ht | ht
          · exact h4 t ht
          · simp at ht; subst ht; exact n1
  · rintro _ st ⟨x2, x5, x6, ss, rfl, h1, h2, h3, h4⟩
    simp [us, usB]
    exact q ss st (by simpa using h2) h3 h4 (h1.mono (by simp; omega))
end
end Ev
/-! EvC4 -/
namespace Ev
open PySem PySem.Spec PyProof.Rows L2
theorem rn_eq {α : Type} {o : Option α} {a : α} (h : Rn o (fun r => r = a)) : o = some a := by
  obtain ⟨x, e, rfl⟩ := h
  exact e
/-- a list or a tuple of these -/
def Sq (d : D) (ds : List D) : Prop := d = .lst ds ∨ d = .tup ds
theorem Sq.len {d : D} {ds : List D} (h : Sq d ds) : biD .len [d] = some (.int ds.length) := by rcases h with rfl | rfl <;> rfl
theorem Sq.of {d : D} {ds : List D} (h : Sq d ds) : itD .of [d] = some ds := by rcases h with rfl | rfl <;> rfl
theorem Sq.enum {d : D} {ds : List D} (h : Sq d ds) : itD .enum [d] = some (ds.mapIdx fun i d => .tup [.int i, d]) := by rcases h with rfl | rfl <;> rfl
theorem Sq.lt {d : D} {ds : List D} (h : Sq d ds) {cs : List Str} : isiAny cs d ["list", "tuple"] = some true := by rcases h with rfl | rfl <;> first | exact isi_lt_lst | exact isi_lt_tup
theorem Sq.sub {d : D} {ds : List D} (h : Sq d ds) {st : Sst} {i : Int} : subS st d (.int i) = atI ds i := by rcases h with rfl | rfl <;> rfl
theorem Sq.list {d : D} {ds : List D} (h : Sq d ds) : biD .list [d] = some (.lst ds) := by rcases h with rfl | rfl <;> rfl
section
variable {tb : Str × Option Str → Option FnI} {pr : PrimF} {k : Nat} {cs : List Str}
theorem is_list_eq (C : Com tb pr cs) {d : D} {ds : List D} (h : Sq d ds) {st : Sst} : callF tb pr (k + 1) ("is_list", none) [d] st = some (.fz (.bl true), st) := by
  refine rn_eq (rn_fn (C.p _ _) C.is_list rfl ?_)
  simp [f_is_list, us, usB, usL, usLB, frz_eq, ownT]
  exact ⟨_, h.lt, rfl⟩
theorem is_row_eq (C : Com tb pr cs) {d : D} {ds : List D} (h : Sq d ds) {n : Nat} (hn : ds.length = n) {st : Sst} : callF tb pr (k + 2) ("is_row", none) [d, .int n] st = some (.fz (.bl true), st) := by
  refine rn_eq (rn_fn (C.p _ _) C.is_row rfl ?_)
  simp [f_is_row, us, usB, usL, usLB, frz_eq, ownT, is_list_eq C h]
  refine ⟨_, h.len, ?_⟩
  simp [pEq_int, hn]
theorem is_whole_eq (C : Com tb pr cs) {i : Int} {st : Sst} : callF tb pr (k + 1) ("is_whole", none) [.int i] st = some (.fz (.bl true), st) := by
  refine rn_eq (rn_fn (C.p _ _) C.is_whole rfl ?_)
  simp [f_is_whole, us, usB, usL, usLB, frz_eq, ownT]
  refine ⟨_, isi_int_int, ?_⟩
  simp
  refine ⟨_, isi_bool_int, ?_⟩
  simp
theorem is_number_eq (C : Com tb pr cs) {i : Int} (h : 0 ≤ i) {st : Sst} : callF tb pr (k + 2) ("is_number", none) [.int i] st = some (.fz (.bl true), st) := by
  refine rn_eq (rn_fn (C.p _ _) C.is_number rfl ?_)
  simp [f_is_number, us, usB, usL, usLB, frz_eq, ownT, is_whole_eq C, h]
theorem is_index_eq (C : Com tb pr cs) {i j : Int} (h : 0 ≤ i) (h2 : i < j) {st : Sst} : callF tb pr (k + 3) ("is_index", none) [.int i, .int j] st = some (.fz (.bl true), st) := by
  refine rn_eq (rn_fn (C.p _ _) C.is_index rfl ?_)
  simp [f_is_index, us, usB, usL, usLB, frz_eq, ownT, is_number_eq C h, h2]
theorem in_abc {c : Nat} (h1 : 97 ≤ c) (h2 : c ≤ 122) : inD (.str ⟨#[c]⟩) (.str abc) = some true := by
  show (if (#[c] : Array Nat).size = 1 then some (decide ((#[c] : Array Nat).toList.headD 0 ∈ abc.cps.toList)) else none) = _
  rw [if_pos (show (#[c] : Array Nat).size = 1 from rfl), abc_cps]
  simp
  omega
theorem is_name_eq (C : Com tb pr cs) {s : Str} (h : Nm s) {st : Sst} : callF tb pr (k + 1) ("is_name", none) [.str s] st = some (.fz (.bl true), st) := by
  refine rn_eq (rn_fn (C.p _ _) C.is_name rfl ?_)
  have h1 := h.1
  have h2 := h.2.1
  simp [f_is_name, us, usB, usL, usLB, frz_eq, ownT]
  refine ⟨_, isi_str_str, ?_⟩
  simp
  refine rn_if.mpr ⟨fits_of (by omega), ?_⟩
  simp [h1, show (s.length : Int) < 9 by omega]
  refine lc_map (fun _ => .bl true) (fun x hx => ?_) ?_
  · obtain ⟨c, hc, rfl⟩ : ∃ c ∈ s.cps.toList, D.str ⟨#[c]⟩ = x := by simpa [strOf] using hx
    simp
    exact ⟨_, in_abc (h.2.2 c hc).1 (h.2.2 c hc).2, rfl⟩
  · refine ⟨fits_of (by rw [List.length_map, strOf, List.length_map, ← len_cps]; omega), ?_⟩
    simp
/-! ### places -/
def obG (ps : List Str) (es : List (Str × Str)) (ar : List (Str × D)) : D := .obj "Ground" [("own_places", .lst (ps.map .str)), ("own_paths", .lst (es.map pD)), ("own_around", .dct (ar.map kD))]
theorem obG_places {ps : List Str} {es : List (Str × Str)} {ar : List (Str × D)} : fldD (obG ps es ar) "own_places" ["Ground"] = some (.lst (ps.map .str)) := by kernel_rfl
theorem obG_paths {ps : List Str} {es : List (Str × Str)} {ar : List (Str × D)} : fldD (obG ps es ar) "own_paths" ["Ground"] = some (.lst (es.map pD)) := by kernel_rfl
theorem obG_around {ps : List Str} {es : List (Str × Str)} {ar : List (Str × D)} : fldD (obG ps es ar) "own_around" ["Ground"] = some (.dct (ar.map kD)) := by kernel_rfl
/-- an object that has its places at least -/
def HasP (g : D) (ps : List Str) : Prop := fldD g "own_places" ["Ground"] = some (.lst (ps.map .str))
theorem is_place_eq (C : Com tb pr cs) {g : D} {ps : List Str} (hg : HasP g ps) (hp : ∀ p ∈ ps, Sok p) {s : Str} (hs : Sok s) {st : Sst} : callF tb pr (k + 1) ("is_place", none) [g, .str s] st = some (.fz (.bl (decide (s ∈ ps))), st) := by
  refine rn_eq (rn_fn (C.p _ _) C.is_place rfl ?_)
  simp [f_is_place, us, usB, usL, usLB, frz_eq, ownT]
  refine ⟨_, isi_str_str, ?_⟩
  simp
  refine ⟨_, hg, ?_⟩
  exact ⟨_, in_strs hs hp, rfl⟩
theorem check_place_eq (C : Com tb pr cs) {g : D} {ps : List Str} (hg : HasP g ps) (hp : ∀ p ∈ ps, Sok p) {s : Str} (hs : s ∈ ps) {st : Sst} : callF tb pr (k + 2) ("check_place", none) [g, .str s] st = some (.fz .non, st) := by
  refine rn_eq (rn_fn (C.p _ _) C.check_place rfl ?_)
  simp [f_check_place, us, usB, usL, usLB, frz_eq, ownT, is_place_eq C hg hp (hp s hs), hs]
theorem check_ground_eq (C : Com tb pr cs) {ps : List Str} {es : List (Str × Str)} {ar : List (Str × D)} {st : Sst} : callF tb pr (k + 1) ("check_ground", none) [obG ps es ar] st = some (.fz .non, st) := by
  refine rn_eq (rn_fn (C.p _ _) C.check_ground rfl ?_)
  simp [f_check_ground, us, usB, usL, usLB, frz_eq, ownT]
  refine ⟨_, isi_ground C.gr, ?_⟩
  simp
/-- two unlike names, all of them there -/
theorem first_bad_place_eq (C : Com tb pr cs) {d : D} {ss : List Str} (h : Sq d (ss.map .str)) (h0 : ss ≠ []) (h1 : ss.length ≤ 16777215) (h2 : ss.Nodup) (h3 : ∀ s ∈ ss, Nm s) {st : Sst} : callF tb pr (k + 2) ("first_bad_place", none) [d] st = some (.fz .non, st) := by
  refine rn_eq (rn_fn (C.p _ _) C.first_bad_place rfl ?_)
  simp [f_first_bad_place, us, usB, usL, usLB, usK, frz_eq, ownT, is_list_eq C h]
  have hl : ss.length ≠ 0 := by simpa using h0
  refine ⟨_, h.len, ?_⟩
  simp [pEq_int, h0]
  refine ⟨_, h.enum, ?_⟩
  refine for_inv (fun i env st' => ∃ x2 x3, env = [some (.fz d), some (.od (((ss.take i).map fun s => (s, D.bl true)).map kD)), x2, x3] ∧ st' = st) ⟨none, none, rfl, rfl⟩ ?_ ?_
  · rintro i x _ _ hx ⟨x2, x3, rfl, rfl⟩
    have hi : i < ss.length := by
      have := (List.getElem?_eq_some_iff.mp hx).1
      simpa using this
    rw [List.getElem?_mapIdx, List.getElem?_map, List.getElem?_eq_getElem hi] at hx
    obtain rfl : D.tup [.int i, .str ss[i]] = x := by simpa using hx
    have hm : ss[i] ∈ ss := List.getElem_mem hi
    have hnk : ss[i] ∉ ((ss.take i).map fun s => (s, D.bl true)).map (·.1) := by
      rw [List.map_map]
      simp only [Function.comp_def, List.map_id']
      intro hin
      obtain ⟨j, hj, e⟩ := List.mem_iff_getElem.mp hin
      rw [List.getElem_take] at e
      have hj' : j < i := by simp at hj; omega
      have := (List.pairwise_iff_getElem.mp h2) j i (by omega) hi hj'
      exact this e
    obtain ⟨kv, hkv⟩ : ∃ kv, kv = (ss.take i).map fun s => (s, D.bl true) := ⟨_, rfl⟩
    have hkl : kv.length ≤ ss.length := by rw [hkv]; simp; omega
    rw [← hkv] at hnk ⊢
    simp [us, usB, usL, usLB, usK, frz_eq, ownT, is_name_eq C (h3 _ hm)]
    refine ⟨_, in_dct, ?_⟩
    rw [decide_eq_false hnk]
    simp [us, usB, usL, usLB, usK, frz_eq, ownT, keysK_str]
    refine rn_if.mpr ⟨fits_of (by omega), ?_⟩
    simp [dPut_str]
    have : sPut kv ss[i] (.bl true) = (ss.take (i + 1)).map fun s => (s, D.bl true) := by
      unfold sPut
      rw [if_neg hnk, hkv, List.take_succ_eq_append_getElem hi, List.map_append]
      rfl
    rw [this]
    simp
  · rintro _ _ ⟨x2, x3, rfl, rfl⟩
    simp [ownT]
end
end Ev
/-! EvC5 -/
namespace Ev
open PySem PySem.Spec PyProof.Rows L2
/-! ### what Ground(places, paths) makes -/
theorem rn_run {cf : CallF} {f : FnI} {as : List D} {st : Sst} {P : T × Sst → Prop} (h : Rn (exB cf f.body (as.map (fun d => some (T.fz d)) ++ List.replicate (f.ns - as.length) none) st) (Fin P)) : Rn (runFn cf f as st) P := by
  obtain ⟨⟨fl, env, s1⟩, e, q⟩ := h
  unfold runFn
  rw [e]
  cases fl with
  | rt t => simp; exact q
  | nx => simp; exact q
  | bk => cases q
  | ct => cases q
section
variable {tb : Str × Option Str → Option FnI} {pr : PrimF} {k : Nat} {cs : List Str}
theorem is_pair_eq (C : Com tb pr cs) {g d : D} {ps : List Str} {a b : Str} (hg : HasP g ps) (hp : ∀ p ∈ ps, Sok p) (hd : Sq d [.str a, .str b]) (ha : a ∈ ps) (hb : b ∈ ps) (hab : a ≠ b) {st : Sst} :
    runFn (callF tb pr (k + 2)) (f_Ground_is_pair cs) [g, d] st = some (.fz (.bl true), st) := by
  refine rn_eq (rn_run ?_)
  have h2 := is_row_eq (k := k) (st := st) C hd (n := 2) rfl
  have h2 : callF tb pr (k + 2) ("is_row", none) [d, .int 2] st = some (.fz (.bl true), st) := h2
  simp [f_Ground_is_pair, us, usB, usL, usLB, frz_eq, ownT, h2]
  refine ⟨_, hd.of, ?_⟩
  refine lc_map (fun _ => .bl true) (fun x hx => ?_) ?_
  · obtain ⟨s, hs, rfl⟩ : ∃ s, s ∈ ps ∧ x = .str s := by
      simp at hx
      rcases hx with rfl | rfl
      · exact ⟨a, ha, rfl⟩
      · exact ⟨b, hb, rfl⟩
    simp [is_place_eq C hg hp (hp s hs), hs]
  · simp [us, usB, usL, usLB, frz_eq, ownT]
    refine ⟨by decide, [true, true], rfl, ?_⟩
    simp [us, usB, usL, usLB, frz_eq, ownT]
    refine ⟨_, hd.sub, ⟨_, hd.sub, ⟨_, pEq_str (hp a ha) (hp b hb), ?_⟩⟩⟩
    simp [hab]
end
/-! ### the pure part -/
def norm (p : Str × Str) : Str × Str := (if ltS p.2 p.1 then p.2 else p.1, if ltS p.1 p.2 then p.2 else p.1)
def arnd (es : List (Str × Str)) (p : Str) : List Str := es.filterMap fun e => if e.1 = p then some e.2 else if e.2 = p then some e.1 else none
/-- in the data's order -/
def pdS (p : Str × Str) : PyData := .tuple [.str p.1, .str p.2]
def srtS (E : List (Str × Str)) : List (Str × Str) := E.mergeSort (PySem.W.dataLe false pdS)
def gPl (P : List Str) : List Str := srt D.str P
def gPa (E : List (Str × Str)) : List (Str × Str) := srtS (E.map norm)
def gAr (P : List Str) (E : List (Str × Str)) : List (Str × D) := (gPl P).map fun p => (p, .lst ((srt D.str (arnd (gPa E) p)).map .str))
def groundD (P : List Str) (E : List (Str × Str)) : D := obG (gPl P) (gPa E) (gAr P E)
structure OkG (P : List Str) (E : List (Str × Str)) : Prop where
  ne : P ≠ []
  nd : P.Nodup
  nm : ∀ s ∈ P, Nm s
  fw : P.length ≤ 1000000
  pr : ∀ e ∈ E, e.1 ∈ P ∧ e.2 ∈ P ∧ e.1 ≠ e.2
  un : (E.map norm).Nodup
  fe : E.length ≤ 1000000
def parseS (d : D) : Option (List Str) := match seqOf d with
  | some ds => txts ds
  | none => none
def pair2 (d : D) : Option (Str × Str) := match seqOf d with
  | some [.str a, .str b] => some (a, b)
  | _ => none
def parseE (d : D) : Option (List (Str × Str)) := match seqOf d with
  | some ds => mapO pair2 ds
  | none => none
open Classical in
noncomputable def groundP : List D → Sst → Option (T × Sst) := fun as st => match as with
  | [dp, de] => match parseS dp, parseE de with
    | some P, some E => if OkG P E then some (.fz (groundD P E), st) else none
    | _, _ => none
  | _ => none
theorem seqOf_sq {d : D} {ds : List D} (h : seqOf d = some ds) : Sq d ds := by
  cases d with
  | lst xs => cases h; exact .inl rfl
  | tup xs => cases h; exact .inr rfl
  | _ => cases h
theorem txts_inv : ∀ {ds : List D} {ss : List Str}, txts ds = some ss → ds = ss.map .str
  | [], ss, h => by cases h; rfl
  | d :: ds, ss, h => by
    cases d with
    | str b =>
      have h : (match txts ds with
        | some bs => some (b :: bs)
        | none => none) = some ss := h
      cases e : txts ds with
      | none => rw [e] at h; cases h
      | some cs =>
        rw [e] at h
        cases h
        rw [List.map_cons, ← txts_inv e]
    | _ => cases h
theorem pair2_inv {d : D} {p : Str × Str} (h : pair2 d = some p) : Sq d [.str p.1, .str p.2] := by
  unfold pair2 at h
  split at h
  · rename_i a b e
    cases h
    exact seqOf_sq e
  · cases h
theorem groundP_inv {as : List D} {st st1 : Sst} {t : T} (h : groundP as st = some (t, st1)) : ∃ dp de P E ds, as = [dp, de] ∧ Sq dp (P.map .str) ∧ Sq de ds ∧ All2 (fun d p => Sq d [.str p.1, .str p.2]) ds E ∧ OkG P E ∧ t = .fz (groundD P E) ∧ st1 = st := by
  unfold groundP at h
  split at h
  · rename_i dp de
    split at h
    · rename_i P E e1 e2
      split at h
      · rename_i ok
        cases h
        unfold parseS at e1
        unfold parseE at e2
        split at e1
        · rename_i ds1 e3
          split at e2
          · rename_i ds2 e4
            refine ⟨dp, de, P, E, ds2, rfl, ?_, seqOf_sq e4, ?_, ok, rfl, rfl⟩
            · rw [← txts_inv e1]
              exact seqOf_sq e3
            · clear e4 ok
              induction ds2 generalizing E with
              | nil => cases e2; exact .nil
              | cons d ds ih =>
                unfold mapO at e2
                cases e5 : pair2 d with
                | none => rw [e5] at e2; cases e2
                | some p =>
                  cases e6 : mapO pair2 ds with
                  | none => rw [e5, e6] at e2; cases e2
                  | some q =>
                    rw [e5, e6] at e2
                    cases e2
                    exact .cons (pair2_inv e5) (ih _ e6)
          · cases e2
        · cases e1
      · cases h
    · cases h
  · cases h
theorem groundP_ok {dp de : D} {P : List Str} {E : List (Str × Str)} {ds : List D} {st : Sst} (h1 : Sq dp (P.map .str)) (h2 : Sq de ds) (h3 : All2 (fun d p => Sq d [.str p.1, .str p.2]) ds E) (h : OkG P E) : groundP [dp, de] st = some (.fz (groundD P E), st) := by
  have sq : ∀ {d : D} {ds : List D}, Sq d ds → seqOf d = some ds := fun h => by rcases h with rfl | rfl <;> rfl
  have e1 : parseS dp = some P := by
    unfold parseS
    rw [sq h1]
    exact txts_map P
  have e2 : parseE de = some E := by
    unfold parseE
    rw [sq h2]
    show mapO pair2 ds = some E
    clear h2 h
    induction h3 with
    | nil => rfl
    | @cons d p ds E a t ih =>
      have e : pair2 d = some p := by
        unfold pair2
        rw [sq a]
      unfold mapO
      rw [e, ih]
  unfold groundP
  simp only [e1, e2]
  rw [if_pos h]
end Ev
namespace Ev
open PySem PySem.Spec PyProof.Rows L2
theorem dataLt_ltS {a b : Str} : PySem.W.dataLt (.str a) (.str b) = ltS a b := PySem.W.dataLt_str a b
theorem bi_minP {d : D} {a b : Str} (h : Sq d [.str a, .str b]) : biD .min [d] = some (.str (norm (a, b)).1) := by
  have e : bestD PySem.W.minD [D.str a, .str b] = some (.str (norm (a, b)).1) := by
    unfold bestD
    simp only [toPs, toP]
    rw [if_pos (by simp [alikeB, PySem.W.alike, nonB, PyData.depthAll, PyData.depth])]
    simp only [PySem.W.minD, List.foldl_cons, List.foldl_nil, dataLt_ltS, norm]
    cases ltS b a <;> rfl
  rcases h with rfl | rfl <;> exact e
theorem bi_maxP {d : D} {a b : Str} (h : Sq d [.str a, .str b]) : biD .max [d] = some (.str (norm (a, b)).2) := by
  have e : bestD PySem.W.maxD [D.str a, .str b] = some (.str (norm (a, b)).2) := by
    unfold bestD
    simp only [toPs, toP]
    rw [if_pos (by simp [alikeB, PySem.W.alike, nonB, PyData.depthAll, PyData.depth])]
    simp only [PySem.W.maxD, List.foldl_cons, List.foldl_nil, dataLt_ltS, norm]
    cases ltS a b <;> rfl
  rcases h with rfl | rfl <;> exact e
end Ev
/-! EvG0 -/
namespace Ev
open PySem PySem.Spec PyProof.Rows L2
/-! ### sorted, of a dict whose keys are pairs of strings -/
def tupS (p : Str × Str) : List V := [.str p.1, .str p.2]
def keyS (p : Str × Str) : List L2.Key := [.inr p.1, .inr p.2]
theorem keyS_v (p : Str × Str) : (keyS p).map kV = tupS p := rfl
theorem keys_each {H : Hp} : ∀ {kvs : List (List L2.Key × V)} {bs : List Addr} {E : List (Str × Str)}, IsKeys H kvs bs → kvs.map (·.1) = E.map keyS → PySem.W.EachIs (fun (u : Value) e => ∃ b, u = .ref b ∧ H b = some (.tup (tupS e))) (bs.map Value.ref) E
  | [], _, E, h, e => by
    cases h
    cases E with
    | nil => exact .nil
    | cons _ _ => cases e
  | p :: kvs, _, E, h, e => by
    cases h with
    | cons h t =>
      cases E with
      | nil => cases e
      | cons x E =>
        rw [List.map_cons, List.map_cons] at e
        obtain ⟨e1, e2⟩ := List.cons.inj e
        refine .cons ⟨_, rfl, ?_⟩ (keys_each t e2)
        have e1 : p.1 = keyS x := e1
        rw [e1] at h
        exact h
theorem each_refs {H : Hp} : ∀ {out : List Value} {E : List (Str × Str)}, PySem.W.EachIs (fun (u : Value) e => ∃ b, u = .ref b ∧ H b = some (.tup (tupS e))) out E → ∃ bs : List Addr, out = bs.map Value.ref ∧ Paired (fun b e => H b = some (.tup (tupS e))) bs E
  | _, _, .nil => ⟨[], rfl, .nil⟩
  | _, _, .cons ⟨b, e1, h1⟩ t => by
    obtain ⟨bs, e, p⟩ := each_refs t
    exact ⟨b :: bs, by rw [e1, e]; rfl, .cons h1 p⟩
section
variable {X : Cx}
theorem call_sorted_dT (hc : X.calm = true) (hu : X.A.units + 100 < cLine) : CallR X (.builtin "sorted") (fun xs H Q => ∃ (d : Addr) (kvs : List (List L2.Key × V)) (E : List (Str × Str)), xs = [V.ref d] ∧ Rd H d (.dT kvs) ∧ kvs.map (·.1) = E.map keyS ∧
    ∀ (p : Addr) (bs : List Addr), H p = none → Paired (fun b e => H b = some (.tup (tupS e))) bs (srtS E) → Q (.ref p) (upd H p (.lst (bs.map V.ref)))) := by
  intro pins s σ H xs us Q I r h
  obtain ⟨d, kvs, E, rfl, hd, hE, q⟩ := h
  obtain ⟨u, rfl, rx⟩ := r.one
  cases rx
  obtain ⟨z, hs, ks, pr, o, es, ep, ho, hx, hdt, he, hn⟩ := (show ObjOk X.prog X.w H s.heap d (.dT kvs) from hd.ok I.hok)
  have l1 : es.size = ks.length := size_of_entries he
  have l2 : kvs.length = ks.length := Paired.length pr
  have l3 : kvs.length = E.length := by have := congrArg List.length hE; simpa using this
  have hbs := keys_each (isKeys_of pr) hE
  have er : PySem.W.EachIs (fun v b => ∃ as, Reads s.heap v (pdS b) as) ((ks.map fun x => x.2.1).map Value.ref) E := hbs.mono fun u e ⟨b, e1, h1⟩ => by
    subst e1
    exact Dp.reads I (pdS e) (.ref b) _ (.tup (SqT.of h1) (.cons (.str _) (.cons (.str _) .nil))) rfl
  refine sorted_coll (vs := (ks.map fun x => x.2.1).map Value.ref) (bs := E) (enc := pdS) (R := fun u e => ∃ b, u = .ref b ∧ H b = some (.tup (tupS e))) (fun Q' E' k => ?_) hbs er ?_ ?_ (by omega) (fun b _ => ?_) fun out h1 h' tk c hlen eo hk1 hk2 hcc => ?_
  · refine PySem.W.kdu_collect (A := X.A.in1) (kdl_raw hs hx hdt) (I.ok.hd hc) ho (by omega) fun h' tk acc' kp it => ?_
    have ea : acc'.toList = (ks.map fun x => x.2.1).map Value.ref := by
      have hl : acc'.toList.length = ks.length := by rw [Array.length_toList, it.1]; exact l1
      rw [List.map_map]
      apply List.ext_getElem?
      intro j
      rw [List.getElem?_map]
      cases hj : acc'.toList[j]? with
      | none =>
        have h1 := List.getElem?_eq_none_iff.mp hj
        rw [List.getElem?_eq_none (by omega)]
        rfl
      | some v =>
        obtain ⟨en, hen, hv⟩ := it.2 j v (by rw [← Array.getElem?_toList]; exact hj)
        have qe := entry_at he j
        rw [hen] at qe
        cases hb : ks[j]? with
        | none =>
          rw [hb] at qe
          exact nomatch (show some en = none from qe)
        | some b =>
          rw [hb] at qe
          have e2 : en = entryOfKey (tupleKind (mixKind X.prog X.w)) b := Option.some.inj qe
          rw [hv, e2]
          rfl
    rw [ea]
    exact k h' tk kp
  · exact PySem.W.AllAlike.of fun a b => by simp [pdS, PySem.W.alike, PySem.W.alikeAll]
  · exact PySem.W.Sortable.tuples fun b => ⟨_, _, rfl⟩
  · have : (pdS b).depth = 1 := by simp [pdS, PyData.depth, PyData.depthAll]
    omega
  · obtain ⟨bs, e1, p1⟩ := each_refs eo
    have I1 : Inv X pins σ H { s with heap := h1 } := I.kept (t' := s.toks) hk1
    have hf : H h1.objs.size = none := I1.hok.fresh (Nat.le_refl _)
    refine ⟨.ref h1.objs.size, upd H h1.objs.size (.lst (bs.map V.ref)), I1.laid (t' := tk) hk2 (Nat.le_refl _) ?_, rfl, q _ bs hf p1⟩
    refine ⟨?_, out, c, ?_, hcc⟩
    · rw [List.length_map]
      have : bs.length = E.length := by
        have h2 := congrArg List.length e1
        rw [List.length_map, hlen] at h2
        exact h2.symm
      omega
    · rw [e1]
      exact vals_refs bs
end
end Ev
/-! EvGh -/
namespace Ev
open PySem PySem.Spec PyProof.Rows L2
/-! ### names that hold frozen data -/
inductive ZR (C : Ctx) (θ : Toks) (F : Hp) : Env → L2.St → Prop where
  | nil : ZR C θ F [] []
  | non {o : Option V} {env : Env} {σ : L2.St} (t : ZR C θ F env σ) : ZR C θ F (none :: env) (o :: σ)
  | fz {d : D} {v : V} {env : Env} {σ : L2.St} (r : R C θ F d v) (t : ZR C θ F env σ) : ZR C θ F (some (.fz d) :: env) (some v :: σ)
section
variable {C : Ctx} {θ θ' θ0 : Toks} {F F' H H' F0 H0 : Hp} {ow ow' ow0 : OwF} {st st' : Sst}
theorem ZR.env {env : Env} {σ : L2.St} (h : ZR C θ F env σ) : EnvOk C θ F H ow σ env := by
  have main : env.length = σ.length ∧ ∀ (i : Nat) (t : T), env[i]? = some (some t) → ∃ d v, t = T.fz d ∧ σ[i]? = some (some v) ∧ R C θ F d v := by
    induction h with
    | nil => exact ⟨rfl, fun i t e => by simp at e⟩
    | non _ ih =>
      refine ⟨by simp [ih.1], fun i t e => ?_⟩
      cases i with
      | zero => simp at e
      | succ i => simpa using ih.2 i t (by simpa using e)
    | fz r _ ih =>
      refine ⟨by simp [ih.1], fun i t e => ?_⟩
      cases i with
      | zero => simp at e; exact ⟨_, _, e.symm, rfl, r⟩
      | succ i => simpa using ih.2 i t (by simpa using e)
  refine ⟨main.1, fun i t e => ?_⟩
  obtain ⟨d, v, rfl, e2, r⟩ := main.2 i t e
  exact ⟨v, e2, r⟩
theorem ZR.mono {env : Env} {σ : L2.St} (h : ZR C θ F env σ) (l : Le F F') (t : Tle θ θ') : ZR C θ' F' env σ := by
  induction h with
  | nil => exact .nil
  | non _ ih => exact .non ih
  | fz r _ ih => exact .fz (R.mono l t _ _ r) ih
/-- a thing of this def's own -/
structure At (H F : Hp) (ow : OwF) (a : Addr) (o : HO) : Prop where
  h : H a = some o
  f : F a = none
  w : ow a = none
theorem At.ns {a : Addr} {o : HO} (x : At H F ow a o) : ow a ≠ some .strm := by rw [x.w]; exact fun z => by cases z
theorem At.stp {a : Addr} {o : HO} (x : At H F ow a o) (s : Stp θ F H ow θ' F' H' ow') (n : NT o := by (intro _ z; cases z)) : At H' F' ow' a o :=
  ⟨s.ex a o x.h x.ns, s.fn a o x.h n x.ns x.f, (s.oo a o x.h).trans x.w⟩
theorem At.upd {a b : Addr} {o u : HO} (x : At H F ow a o) (hb : a ≠ b) : At (upd H b u) F ow a o := ⟨by rw [upd_ne hb]; exact x.h, x.f, x.w⟩
theorem At.same {a : Addr} {o u : HO} (x : At H F ow a o) : At (L2.upd H a u) F ow a u := ⟨upd_same, x.f, x.w⟩
theorem At.new {a : Addr} {o : HO} (ok : Hok θ F H ow st) (h : H a = none) : At (L2.upd H a o) F ow a o := ⟨upd_same, ok.noF h, ok.noO h⟩
/-- what was frozen for a call alone -/
theorem unfroz {a : Addr} {o : HO} (x : At H F ow a o) (s : Stp θ (L2.upd F a o) H ow θ' F' H' ow') (k : Hok θ' F' H' ow' st') : ∃ F'', Stp θ F H ow θ' F'' H' ow' ∧ Hok θ' F'' H' ow' st' ∧ ∀ b, b ≠ a → F'' b = F' b := by
  have nF : ∀ b u, F b = some u → b ≠ a := fun b u e z => by subst z; rw [x.f] at e; cases e
  refine ⟨fun b => if b = a then none else F' b, ⟨s.th, fun b u e => ?_, s.ex, s.oo, fun b u e n z0 z => ?_⟩, ⟨fun b u e => ?_, fun b u e => ?_, k.liv, k.str⟩, fun b hb => if_neg hb⟩
  · have hb := nF b u e
    show (if b = a then none else F' b) = some u
    rw [if_neg hb]
    exact s.fx b u (by rw [upd_ne hb]; exact e)
  · show (if b = a then none else F' b) = none
    by_cases hb : b = a
    · rw [if_pos hb]
    · rw [if_neg hb]
      exact s.fn b u e n z0 (by rw [upd_ne hb]; exact z)
  · have e : (if b = a then none else F' b) = some u := e
    split at e
    · cases e
    · exact k.le b u e
  · have e : (if b = a then none else F' b) = some u := e
    split at e
    · cases e
    · exact k.sep b u e
theorem old_none (s : Stp θ0 F0 H0 ow0 θ F H ow) (o : Hok θ F H ow st) {a : Addr} (h : H a = none) : H0 a = none := by
  cases e : H0 a with
  | none => rfl
  | some u =>
    obtain ⟨u', e'⟩ := s.live o e
    rw [h] at e'
    cases e'
end
theorem all2_at {α β : Type} {R : α → β → Prop} : ∀ {as : List α} {bs : List β}, All2 R as bs → ∀ {i : Nat} (h : i < bs.length), ∃ a, as[i]? = some a ∧ R a bs[i]
  | _, _, .nil, i, h => by simp at h
  | _, _, .cons r t, 0, h => ⟨_, rfl, r⟩
  | _, _, .cons r t, i + 1, h => by
    obtain ⟨a, e, q⟩ := all2_at t (i := i) (by simpa using h)
    exact ⟨a, by simpa using e, q⟩
theorem rs_strs {C : Ctx} {θ : Toks} {F : Hp} : ∀ {ss : List Str} {vs : List V}, Rs C θ F (ss.map .str) vs → vs = ss.map V.str
  | [], vs, h => h
  | s :: ss, vs, h => by
    obtain ⟨v, r, rfl, q, z⟩ := h
    rw [show v = V.str s from q, rs_strs z]
    rfl
theorem strs_rs {C : Ctx} {θ : Toks} {F : Hp} : ∀ {ss : List Str}, Rs C θ F (ss.map .str) (ss.map V.str)
  | [] => rfl
  | s :: ss => ⟨.str s, _, rfl, rfl, strs_rs⟩
theorem keyS_inj {p q : Str × Str} (h : keyS p = keyS q) : p = q := by
  unfold keyS at h
  obtain ⟨p1, p2⟩ := p
  obtain ⟨q1, q2⟩ := q
  simp at h
  rw [h.1, h.2]
theorem valV_keys {L : List (Str × Str)} {e : Str × Str} (h : e ∉ L) : valV (L.map fun e => (keyS e, V.bl true)) (keyS e) = none := by
  induction L with
  | nil => rfl
  | cons a L ih =>
    rw [List.map_cons, valV_neg (fun z => h (by rw [keyS_inj z]; simp))]
    exact ih fun z => h (by simp [z])
theorem keys_new {EL : List (Str × Str)} (un : (EL.map norm).Nodup) {i : Nat} (hi : i < EL.length) : valV (((EL.map norm).take i).map fun e => (keyS e, V.bl true)) (keyS (norm EL[i])) = none := by
  refine valV_keys fun hin => ?_
  obtain ⟨j, hj, e⟩ := List.mem_iff_getElem.mp hin
  rw [List.getElem_take] at e
  have hj' : j < i := by simp at hj; omega
  have := (List.pairwise_iff_getElem.mp un) j i (by simp; omega) (by simpa using hi) hj'
  rw [e] at this
  exact this (by rw [List.getElem_map])
theorem keys_succ {EL : List (Str × Str)} {i : Nat} (hi : i < EL.length) : (((EL.map norm).take (i + 1)).map fun e => (keyS e, V.bl true)) = (((EL.map norm).take i).map fun e => (keyS e, V.bl true)) ++ [(keyS (norm EL[i]), V.bl true)] := by
  rw [List.take_succ_eq_append_getElem (by simpa using hi), List.map_append, List.getElem_map]
  rfl
theorem Sq.sorted {d : D} {ds : List D} (h : Sq d ds) : biD .sorted [d] = (sortD ds).map .lst := by rcases h with rfl | rfl <;> rfl
theorem semb_cons {X : Cx} {s : Stmt} {r : List Stmt} {D : Ends} {σ : L2.St} {H : Hp} (h : SemS X s { D with nx := fun σ H => SemB X r D σ H } σ H) : SemB X (s :: r) D σ H := sb (pss_cons ps_sem pss_sem) h
theorem semb_nil {X : Cx} {D : Ends} {σ : L2.St} {H : Hp} (h : D.nx σ H) : SemB X [] D σ H := sb pss_nil h
theorem meth_ht {p : Pos} {m : Str} {apos pos : Pos} {env : PySem.Env} {q : Pos} (h : (apos.endLine == pos.line) = true) : eval (.Call (.Attribute (.Name "self" q) m apos) [.Name "path" p] [] pos) env = (do
      let ov ← eval (.Name "self" q) env
      standAt apos.atName
      let (f, first) ← holding [ov] (getMethod ov m (do return (← importBound (.Name "self" q) env).getD true))
      callWith pos f first (backTo pos (starEach [.Name "path" p] env)) (backToKw pos (keywordEach [] env))) := by
  rw [arm_eval_Call, att_base (by kernel_rfl)]
  unfold methodCall methodCallPos
  simp only [h]
  rfl
abbrev gN : List Str := ["self", "places", "paths", "wrong", "known", "index", "path", "one", "other", "place", "some"]
end Ev
/-! EvG2 -/
namespace Ev
open PySem PySem.Spec PyProof.Rows L2
/-! ### own_paths, own_around -/
/-- a dict comprehension over a list that stays -/
theorem dc_lst {K : PySem.W.Frag} {a : Addr} {xs : List V} {g : TG} {tt : TT} {tk tv : TE} {vs : List Nat} {σ : L2.St} {H1 : Hp} {D : Addr} {Qd : Hp → Prop} (Pv : Nat → Hp → Prop) (h0 : Pv 0 (upd H1 D (.dK []))) (hl : ∀ i H, i ≤ xs.length → Pv i H → SqL K H a xs)
    (hs : ∀ i x H, xs[i]? = some x → Pv i H → g x (wipe σ vs) H fun σ2 H2 => wipe σ2 vs = wipe σ vs ∧ tt σ2 H2 fun b H3 =>
      if b = true then tk σ2 H3 fun y H4 => tv σ2 H4 fun z H5 => ∃ kvs k, y = kV k ∧ H5 D = some (.dK kvs) ∧ kvs.length < sizeLine ∧ Pv (i + 1) (upd H5 D (.dK (putK kvs k z))) else Pv (i + 1) H3) (hd : ∀ H, Pv xs.length H → Qd H) :
    ∃ W : Nat → Nat → Hp → Prop, (∃ m, W 0 m (upd H1 D (.dK []))) ∧ ∀ i m H, W i m H →
      ((Itl K a).stop i H ∧ Qd H) ∨ ((Itl K a).go i H ∧ ∃ Nx : Hp → Prop, (∀ H', Nx H' → ∃ m', m' < m ∧ W (i + 1) m' H') ∧ ∀ x H', (Itl K a).yld i H x H' → g x (wipe σ vs) H' fun σ2 H2 => wipe σ2 vs = wipe σ vs ∧ tt σ2 H2 fun b H3 =>
        if b = true then tk σ2 H3 fun y H4 => tv σ2 H4 fun z H5 => ∃ kvs k, y = kV k ∧ H5 D = some (.dK kvs) ∧ kvs.length < sizeLine ∧ Nx (upd H5 D (.dK (putK kvs k z))) else Nx H3) := by
  refine ⟨fun i m H => m = xs.length - i ∧ i ≤ xs.length ∧ Pv i H, ⟨xs.length, by simp, Nat.zero_le _, h0⟩, ?_⟩
  rintro i m H ⟨rfl, hi, p⟩
  have q := hl i H hi p
  by_cases hlt : i < xs.length
  · refine .inr ⟨⟨xs, xs[i], q, by simp [hlt]⟩, Pv (i + 1), fun H' p' => ⟨xs.length - (i + 1), by omega, rfl, hlt, p'⟩, fun x H' y => ?_⟩
    obtain ⟨e, y⟩ := y
    subst e
    exact hs i x _ (y xs q) p
  · have e : i = xs.length := by omega
    subst e
    exact .inl ⟨⟨xs, q, Nat.le_refl _⟩, hd H p⟩
/-- .. over the items of a dict that is locked -/
theorem dc_items {d : Addr} {o : Obj} {kvs0 : List (L2.Key × V)} {g : TG} {tt : TT} {tk tv : TE} {vs : List Nat} {σ : L2.St} {H1 : Hp} {D : Addr} {Qd : Hp → Prop} (Pv : Nat → Hp → Prop) (h0 : Pv 0 (upd H1 D (.dK []))) (hl : ∀ i H, i ≤ kvs0.length → Pv i H → H d = some (.frz o (.dK kvs0)))
    (hs : ∀ i k v T H, kvs0[i]? = some (k, v) → Pv i H → H T = none → g (.ref T) (wipe σ vs) (upd H T (.tup [kV k, v])) fun σ2 H2 => wipe σ2 vs = wipe σ vs ∧ tt σ2 H2 fun b H3 =>
      if b = true then tk σ2 H3 fun y H4 => tv σ2 H4 fun z H5 => ∃ kvs k, y = kV k ∧ H5 D = some (.dK kvs) ∧ kvs.length < sizeLine ∧ Pv (i + 1) (upd H5 D (.dK (putK kvs k z))) else Pv (i + 1) H3) (hd : ∀ H, Pv kvs0.length H → Qd H) :
    ∃ W : Nat → Nat → Hp → Prop, (∃ m, W 0 m (upd H1 D (.dK []))) ∧ ∀ i m H, W i m H →
      ((Iti d o kvs0).stop i H ∧ Qd H) ∨ ((Iti d o kvs0).go i H ∧ ∃ Nx : Hp → Prop, (∀ H', Nx H' → ∃ m', m' < m ∧ W (i + 1) m' H') ∧ ∀ x H', (Iti d o kvs0).yld i H x H' → g x (wipe σ vs) H' fun σ2 H2 => wipe σ2 vs = wipe σ vs ∧ tt σ2 H2 fun b H3 =>
        if b = true then tk σ2 H3 fun y H4 => tv σ2 H4 fun z H5 => ∃ kvs k, y = kV k ∧ H5 D = some (.dK kvs) ∧ kvs.length < sizeLine ∧ Nx (upd H5 D (.dK (putK kvs k z))) else Nx H3) := by
  refine ⟨fun i m H => m = kvs0.length - i ∧ i ≤ kvs0.length ∧ Pv i H, ⟨kvs0.length, by simp, Nat.zero_le _, h0⟩, ?_⟩
  rintro i m H ⟨rfl, hi, p⟩
  have q := hl i H hi p
  by_cases hlt : i < kvs0.length
  · refine .inr ⟨⟨q, hlt⟩, Pv (i + 1), fun H' p' => ⟨kvs0.length - (i + 1), by omega, rfl, hlt, p'⟩, fun x H' y => ?_⟩
    obtain ⟨T, k, v, e1, rfl, hT, rfl⟩ := y
    exact hs i k v T _ e1 p hT
  · have e : i = kvs0.length := by omega
    subst e
    exact .inl ⟨⟨q, Nat.le_refl _⟩, hd H p⟩
theorem tYes_of {σ : L2.St} {H : Hp} {p q : Hp → Prop} (h : p H) : tYes σ H fun b H => if b = true then p H else q H := h
theorem valV_no {f : Str → V} {t : Str} : ∀ {L : List Str}, t ∉ L → valV (L.map fun s => ((Sum.inr s : L2.Key), f s)) (Sum.inr t) = none
  | [], _ => rfl
  | a :: L, h => by
    rw [List.map_cons, valV_neg (fun z => h (by rw [Sum.inr.inj z]; simp))]
    exact valV_no fun z => h (by simp [z])
theorem valV_yes {f : Str → V} {t : Str} : ∀ {L : List Str}, t ∈ L → valV (L.map fun s => ((Sum.inr s : L2.Key), f s)) (Sum.inr t) = some (f t)
  | a :: L, h => by
    by_cases z : a = t
    · subst z
      rw [List.map_cons, valV_pos rfl]
    · rw [List.map_cons, valV_neg (fun y => z (Sum.inr.inj y))]
      exact valV_yes (by
        rcases List.mem_cons.mp h with e | e
        · exact absurd e.symm z
        · exact e)
theorem Hok.tup_free {θ : Toks} {F H : Hp} {ow : OwF} {st : Sst} (o : Hok θ F H ow st) {a : Addr} {xs : List V} (h : H a = some (.tup xs)) : ow a = none := by
  cases e : ow a with
  | none => rfl
  | some k =>
    obtain ⟨u, e1, n⟩ := o.liv a k e
    rw [h] at e1
    cases e1
    exact absurd rfl (n xs)
/-- the tuples of the paths stand -/
def Tups (H : Hp) (bs : List Addr) (E : List (Str × Str)) : Prop := Paired (fun b e => H b = some (.tup (tupS e))) bs E
theorem Tups.mono {H H' : Hp} (h : ∀ a xs, H a = some (.tup xs) → H' a = some (.tup xs)) : ∀ {bs : List Addr} {E : List (Str × Str)}, Tups H bs E → Tups H' bs E
  | _, _, .nil => .nil
  | _, _, .cons a t => .cons (h _ _ a) (Tups.mono h t)
theorem Tups.at {H : Hp} : ∀ {bs : List Addr} {E : List (Str × Str)}, Tups H bs E → ∀ {i : Nat} {v : V}, (bs.map V.ref)[i]? = some v → ∃ b e, v = .ref b ∧ E[i]? = some e ∧ H b = some (.tup (tupS e))
  | _, _, .nil, i, v, h => by simp at h
  | _, _, .cons a t, 0, v, h => by simp at h; exact ⟨_, _, h.symm, rfl, a⟩
  | _, _, .cons a t, i + 1, v, h => by
    obtain ⟨b, e, h1, h2, h3⟩ := Tups.at t (i := i) (v := v) (by simpa using h)
    exact ⟨b, e, h1, by simpa using h2, h3⟩
theorem tups_mem {H : Hp} : ∀ {bs : List Addr} {E : List (Str × Str)}, Tups H bs E → ∀ {b : Addr}, b ∈ bs → ∃ e, H b = some (.tup (tupS e))
  | _, _, .nil, b, h => by simp at h
  | _, _, .cons a t, b, h => by
    rcases List.mem_cons.mp h with rfl | h
    · exact ⟨_, a⟩
    · exact tups_mem t h
theorem rs_tups {C : Ctx} {θ : Toks} {F H : Hp} : ∀ {bs : List Addr} {E : List (Str × Str)}, Tups H bs E → (∀ b ∈ bs, F b = H b) → Rs C θ F (E.map pD) (bs.map V.ref)
  | _, _, .nil, _ => rfl
  | _, _, .cons (a := b) a t, h => ⟨.ref b, _, rfl, ⟨b, _, rfl, SqT.of ((h b (by simp)).trans a), .str _, [.str _], rfl, rfl, .str _, [], rfl, rfl, rfl⟩, rs_tups t fun b' hb => h b' (by simp [hb])⟩
theorem rk_lists {C : Ctx} {θ : Toks} {F : Hp} {lb : Str → Addr} {f : Str → List Str} : ∀ {L : List Str}, (∀ s ∈ L, F (lb s) = some (.lst ((f s).map V.str))) → RK C θ F ((L.map fun p => (p, D.lst ((f p).map .str))).map kD) (L.map fun s => (Sum.inr s, V.ref (lb s)))
  | [], _ => rfl
  | s :: L, h => ⟨.inr s, .ref (lb s), _, rfl, rfl, ⟨lb s, _, rfl, h s (by simp), strs_rs⟩, rk_lists fun s' hs => h s' (by simp [hs])⟩
open Classical in
/-- a new object and all its parts -/
theorem freezeAll {θ0 : Toks} {F0 H0 : Hp} {ow0 : OwF} {θ : Toks} {F H : Hp} {ow : OwF} {st : Sst} {S : Addr → Prop} (o : Hok θ F H ow st) (T : Stp θ0 F0 H0 ow0 θ F H ow) (h : ∀ a, S a → (H0 a = none ∧ ∃ u, At H F ow a u) ∨ ∃ xs, H a = some (.tup xs)) :
    ∃ F', Stp θ0 F0 H0 ow0 θ F' H ow ∧ Hok θ F' H ow st ∧ ∀ a, S a → F' a = H a := by
  refine ⟨fun a => if S a then H a else F a, ⟨T.th, fun a u e => ?_, T.ex, T.oo, fun a u e n z0 z => ?_⟩, ⟨fun a u e => ?_, fun a u e => ?_, o.liv, o.str⟩, fun a ha => if_pos ha⟩
  · have e1 := T.fx a u e
    show (if S a then H a else F a) = some u
    by_cases s : S a
    · rw [if_pos s]
      rcases h a s with ⟨_, v, x⟩ | ⟨xs, x⟩
      · rw [x.f] at e1; cases e1
      · rcases o.le a u e1 with q | ⟨_, ob, q⟩
        · exact q
        · rw [x] at q; cases q
    · rw [if_neg s]; exact e1
  · show (if S a then H a else F a) = none
    by_cases s : S a
    · exfalso
      rcases h a s with ⟨h0, _⟩ | ⟨xs, x⟩
      · rw [h0] at e; cases e
      · have := T.ex a u e z0
        rw [x] at this
        cases this
        exact n xs rfl
    · rw [if_neg s]; exact T.fn a u e n z0 z
  · have e : (if S a then H a else F a) = some u := e
    by_cases s : S a
    · rw [if_pos s] at e; exact .inl e
    · rw [if_neg s] at e; exact o.le a u e
  · have e : (if S a then H a else F a) = some u := e
    by_cases s : S a
    · rw [if_pos s] at e
      rcases h a s with ⟨_, v, x⟩ | ⟨xs, x⟩
      · exact x.w
      · exact o.tup_free x
    · rw [if_neg s] at e; exact o.sep a u e
/-- what stands while own_around is made -/
structure Bs (C : Ctx) (θ0 : Toks) (F0 H0 : Hp) (ow0 : OwF) (θ : Toks) (F : Hp) (ow : OwF) (st : Sst) (x dx pl pp : Addr) (fs : List (Str × V)) (P : List Str) (bs : List Addr) (E : List (Str × Str)) (H : Hp) : Prop where
  T : Stp θ0 F0 H0 ow0 θ F H ow
  o : Hok θ F H ow st
  ax : At H F ow x (.ins (C.cls "Ground") dx fs)
  ap : At H F ow pl (.lst (P.map V.str))
  aq : At H F ow pp (.lst (bs.map V.ref))
  tp : Tups H bs E
section
variable {C : Ctx} {θ0 : Toks} {F0 H0 : Hp} {ow0 : OwF} {θ : Toks} {F : Hp} {ow : OwF} {st : Sst} {x dx pl pp : Addr} {fs : List (Str × V)} {P : List Str} {bs : List Addr} {E : List (Str × Str)} {H : Hp}
theorem ne_at {H : Hp} {a b : Addr} {o : HO} (h : H a = some o) (h' : H b = none) : a ≠ b := fun z => by rw [z, h'] at h; cases h
theorem Bs.new (B : Bs C θ0 F0 H0 ow0 θ F ow st x dx pl pp fs P bs E H) {a : Addr} {o : HO} (ha : H a = none) : Bs C θ0 F0 H0 ow0 θ F ow st x dx pl pp fs P bs E (upd H a o) := by
  obtain ⟨o1, t1⟩ := B.o.laid (o := o) ha
  exact ⟨B.T.trans B.o t1, o1, B.ax.upd (ne_at B.ax.h ha), B.ap.upd (ne_at B.ap.h ha), B.aq.upd (ne_at B.aq.h ha), B.tp.mono fun b xs h => by rw [upd_ne (ne_at h ha)]; exact h⟩
theorem Bs.chg (B : Bs C θ0 F0 H0 ow0 θ F ow st x dx pl pp fs P bs E H) {a : Addr} {u o : HO} (h0 : H0 a = none) (ha : At H F ow a u) (hx : a ≠ x) (hp : a ≠ pl) (hq : a ≠ pp) (nu : NT u) (n : NT o) : Bs C θ0 F0 H0 ow0 θ F ow st x dx pl pp fs P bs E (upd H a o) := by
  obtain ⟨o1, t1⟩ := Ev.chg (o := o) B.o B.T h0 ha.f ha.ns n
  refine ⟨t1, o1, B.ax.upd hx.symm, B.ap.upd hp.symm, B.aq.upd hq.symm, B.tp.mono fun b xs h => ?_⟩
  rw [upd_ne]
  · exact h
  · rintro rfl
    rw [ha.h] at h
    cases h
    exact nu xs rfl
theorem Bs.fld (B : Bs C θ0 F0 H0 ow0 θ F ow st x dx pl pp fs P bs E H) {fs' : List (Str × V)} (hx0 : H0 x = none) : Bs C θ0 F0 H0 ow0 θ F ow st x dx pl pp fs' P bs E (upd H x (.ins (C.cls "Ground") dx fs')) := by
  obtain ⟨o1, t1⟩ := Ev.chg (o := .ins (C.cls "Ground") dx fs') B.o B.T hx0 B.ax.f B.ax.ns
  refine ⟨t1, o1, B.ax.same, B.ap.upd fun z => ?_, B.aq.upd fun z => ?_, B.tp.mono fun b xs h => ?_⟩
  · have := B.ap.h; rw [z, B.ax.h] at this; cases this
  · have := B.aq.h; rw [z, B.ax.h] at this; cases this
  · rw [upd_ne]
    · exact h
    · rintro rfl
      rw [B.ax.h] at h
      cases h
end
theorem norm_or (p : Str × Str) (h : p.1 ≠ p.2) : norm p = p ∨ norm p = (p.2, p.1) := by
  obtain ⟨a, b⟩ := p
  unfold norm ltS
  by_cases h1 : a.cps.toList < b.cps.toList
  · have h2 : ¬ b.cps.toList < a.cps.toList := List.lt_asymm h1
    simp [h1, h2]
  · by_cases h2 : b.cps.toList < a.cps.toList
    · simp [h1, h2]
    · exfalso
      have := List.le_antisymm (List.not_lt.mp h2) (List.not_lt.mp h1)
      exact h (str_ext' this)
theorem gPa_mem {PL : List Str} {EL : List (Str × Str)} (okg : OkG PL EL) {e : Str × Str} (h : e ∈ gPa EL) : e.1 ∈ gPl PL ∧ e.2 ∈ gPl PL ∧ e.1 ≠ e.2 := by
  have h1 : e ∈ EL.map norm := (List.mergeSort_perm _ _).mem_iff.mp h
  obtain ⟨e', he', rfl⟩ := List.mem_map.mp h1
  obtain ⟨p1, p2, p3⟩ := okg.pr e' he'
  have m : ∀ {s}, s ∈ PL → s ∈ gPl PL := fun hs => (srt_perm _ _).mem_iff.mpr hs
  rcases norm_or e' p3 with z | z <;> rw [z]
  · exact ⟨m p1, m p2, p3⟩
  · exact ⟨m p2, m p1, fun y => p3 y.symm⟩
theorem arnd_succ {L : List (Str × Str)} {i : Nat} (hi : i < L.length) (s : Str) : arnd (L.take (i + 1)) s = arnd (L.take i) s ++ (if L[i].1 = s then [L[i].2] else if L[i].2 = s then [L[i].1] else []) := by
  unfold arnd
  rw [List.take_succ_eq_append_getElem hi, List.filterMap_append]
  congr 1
  by_cases h1 : L[i].1 = s
  · simp [h1]
  · by_cases h2 : L[i].2 = s <;> simp [h1, h2]
theorem arnd_len (L : List (Str × Str)) (s : Str) : (arnd L s).length ≤ L.length := List.length_filterMap_le _ _
section
variable {g : Gi} {C : Ctx} {cf : CallF} {X : Cx}
  {q37 q38 q39 q40 q41 q42 q43 q44 q45 q46 q47 q48 q49 q50 q51 q52 q53 q54 q55 q56 q57 q58 q59 q60 q61 q62 q63 q64 q65 q66 q67 q68 q69 q70 q71 q72 q73 q74 q75 q76 q77 q78 q79 q80 q81 q82 q83 q84 q85 q86 q87 q88 : Pos}
  {k4 k5 : Nat} {sc1 sc2 : Scope}
theorem ground_tail (XF : XFn g C cf gN X) (cl : Cls X.K (C.cls "Ground")) (na1 : NoAttr X.K (C.cls "Ground") "own_places") (na2 : NoAttr X.K (C.cls "Ground") "own_paths") (na3 : NoAttr X.K (C.cls "Ground") "own_around")
    (hq2 : (q61.endLine == q63.line) = true) (hq3 : (q69.endLine == q71.line) = true) (hq4 : (q82.endLine == q83.line) = true) (hb1 : X.mg "sorted" = none)
    (hs : glB X.env.scope "sorted" = true) (v0 : visB X.env.scope "self" = true) (v4 : visB X.env.scope "known" = true) (v7 : visB X.env.scope "one" = true) (v8 : visB X.env.scope "other" = true) (l7 : locB X.env.scope "one" = true) (l8 : locB X.env.scope "other" = true)
    (b1 : blkC gN X.env.scope sc1 [("place", 9)] = true) (g1 : tgOf gN sc1 (.Name "place" q47) = some (.n 9)) (w1 : visB (relS sc1 X.env.scope) "place" = true)
    (b2 : blkC gN X.env.scope sc2 [("place", 9), ("some", 10)] = true) (g2 : tgOf gN sc2 (.Tuple [.Name "place" q77, .Name "some" q78] k5 q79) = some (.t [.n 9, .n 10])) (w2 : visB (relS sc2 X.env.scope) "place" = true) (w3 : visB (relS sc2 X.env.scope) "some" = true) (w4 : glB (relS sc2 X.env.scope) "sorted" = true)
    {θ0 : Toks} {F0 H0 : Hp} {ow0 : OwF} {θ : Toks} {F H : Hp} {ow : OwF} {st : Sst} {x dx pl kd : Addr} {PL : List Str} {EL : List (Str × Str)} (T : Stp θ0 F0 H0 ow0 θ F H ow) (o : Hok θ F H ow st) (hx0 : H0 x = none) (ax : At H F ow x (.ins (C.cls "Ground") dx [("own_places", .ref pl)])) (pl0 : H0 pl = none) (apl : At H F ow pl (.lst ((gPl PL).map V.str))) (akd : At H F ow kd (.dT ((EL.map norm).map fun e => (keyS e, V.bl true)))) (okg : OkG PL EL)
    {σ : L2.St} (h0 : σ[0]? = some (some (.ref x))) (h4 : σ[4]? = some (some (.ref kd))) (hl : σ.length = 11)
    {D : Ends} (kk : ∀ σ' H' θ' F' ow', Stp θ0 F0 H0 ow0 θ' F' H' ow' → Hok θ' F' H' ow' st → R C θ' F' (groundD PL EL) (.ref x) → D.nx σ' H') :
    SemB X [
      .Assign [.Attribute (.Name "self" q37) "own_paths" q38] (.Call (.Name "sorted" q39) [.Name "known" q40] [] q41) q42,
      .Assign [.Attribute (.Name "self" q43) "own_around" q44] (.DictComp (.Name "place" q45) (.List [] q46) [⟨.Name "place" q47, .Attribute (.Name "self" q48) "own_places" q49, [], 0⟩] sc1 q50) q51,
      .For (.Tuple [.Name "one" q52, .Name "other" q53] k4 q54) (.Attribute (.Name "self" q55) "own_paths" q56) [
        .Expr (.Call (.Attribute (.Subscript (.Attribute (.Name "self" q57) "own_around" q58) (.Name "one" q59) q60) "append" q61) [.Name "other" q62] [] q63) q64,
        .Expr (.Call (.Attribute (.Subscript (.Attribute (.Name "self" q65) "own_around" q66) (.Name "other" q67) q68) "append" q69) [.Name "one" q70] [] q71) q72] [] q73,
      .Assign [.Attribute (.Name "self" q74) "own_around" q75] (.DictComp (.Name "place" q76) (.Call (.Name "sorted" q86) [.Name "some" q87] [] q88) [⟨.Tuple [.Name "place" q77, .Name "some" q78] k5 q79, .Call (.Attribute (.Attribute (.Name "self" q80) "own_around" q81) "items" q82) [] [] q83, [], 0⟩] sc2 q84) q85] D σ H := by
  have okx := XF.ok
  have hN : X.N = gN := okx.hN
  have nd : X.N.Nodup := by rw [hN]; exact okx.nd
  have hu : X.A.units + 1 < cLine := by have := okx.un; omega
  have nS : ∀ {p : Pos}, PE X (.Name "self" p) (tVar 0) := n_var (N := gN) hN (by decide) v0 (by decide)
  have nK : ∀ {p : Pos}, PE X (.Name "known" p) (tVar 4) := n_var (N := gN) hN (by decide) v4 (by decide)
  have nO : ∀ {p : Pos}, PE X (.Name "one" p) (tVar 7) := n_var (N := gN) hN (by decide) v7 (by decide)
  have nT : ∀ {p : Pos}, PE X (.Name "other" p) (tVar 8) := n_var (N := gN) hN (by decide) v8 (by decide)
  have two : (2 : Nat) ≤ sizeLine := by rw [sizeLine_eq]; decide
  have hpl : (gPl PL).length = PL.length := (srt_perm _ _).length_eq
  -- self.own_paths = sorted(known)
  refine semb_cons (ss (ps_fld nS (pe_callB (call_sorted_dT okx.calm (by have := okx.un; omega)) (gl_of hs) hb1 (by decide +kernel) (pa_cons nK pa_nil)) rfl) ?_)
  refine ⟨.ref kd, h4, kd, _, EL.map norm, rfl, .inl akd.h, by rw [List.map_map]; rfl, fun pp bs hpp htp => ?_⟩
  have hpq : pp ≠ x := (ne_at ax.h hpp).symm
  refine ⟨.ref x, h0, x, _, dx, _, rfl, by rw [upd_ne hpq.symm]; exact ax.h, cl, na2, (by show 1 < 1000; decide), ?_⟩
  obtain ⟨o1, t1⟩ := o.laid (o := .lst (bs.map V.ref)) hpp
  have T1 := T.trans o t1
  have pp0 := old_none T o hpp
  have apq : At (upd H pp (.lst (bs.map V.ref))) F ow pp (.lst (bs.map V.ref)) := At.new o hpp
  have ax1 := ax.stp t1
  have apl1 := apl.stp t1
  have tp1 : Tups (upd H pp (.lst (bs.map V.ref))) bs (gPa EL) := Tups.mono (fun b xs h => by rw [upd_ne (ne_at h hpp)]; exact h) htp
  have npl : pl ≠ x := fun z => by have := apl.h; rw [z, ax.h] at this; cases this
  have B2 : Bs C θ0 F0 H0 ow0 θ F ow st x dx pl pp [("own_places", .ref pl), ("own_paths", .ref pp)] (gPl PL) bs (gPa EL) (upd (upd H pp (.lst (bs.map V.ref))) x (.ins (C.cls "Ground") dx [("own_places", .ref pl), ("own_paths", .ref pp)])) := by
    obtain ⟨o2, T2⟩ := chg (o := .ins (C.cls "Ground") dx [("own_places", .ref pl), ("own_paths", .ref pp)]) o1 T1 hx0 ax1.f ax1.ns
    refine ⟨T2, o2, ax1.same, apl1.upd npl, apq.upd hpq, tp1.mono fun b xs h => ?_⟩
    rw [upd_ne (fun z => by rw [z, ax1.h] at h; cases h)]
    exact h
  show SemB X _ _ _ (upd (upd H pp (.lst (bs.map V.ref))) x (.ins (C.cls "Ground") dx [("own_places", .ref pl), ("own_paths", .ref pp)]))
  generalize upd (upd H pp (.lst (bs.map V.ref))) x (.ins (C.cls "Ground") dx [("own_places", .ref pl), ("own_paths", .ref pp)]) = H2 at *
  clear T o ax apl akd hpp htp o1 t1 T1 ax1 apl1 tp1 apq
  -- self.own_around = {place: [] for place in self.own_places}
  have hr1 : ∀ (s : Shared) (H : Hp) (c : Addr) (cl : List (Str × Addr)) (fp : List Addr), (X.blk s H sc1 (compEnvC sc1 cl c X.env) fp).env.scope = relS sc1 X.env.scope := fun _ _ _ _ _ => rfl
  refine semb_cons (ss (ps_fld nS (pe_dc (own := [("place", 9)]) okx.calm nd (pi_list (pe_fld nS rfl)) (by rw [hN]; exact blkOk_by b1) (comp_pg hN okx.nd okx.calm g1) (fun _ _ _ _ _ => pts_nil) (fun s H c cl fp => n_var (X := X.blk s H sc1 (compEnvC sc1 cl c X.env) fp) (N := gN) (x := "place") (i := 9) hN (by decide) w1 (by decide)) (fun _ _ _ _ _ => pe_lst pa_nil)) rfl) ?_)
  have ndP : (gPl PL).Nodup := (srt_perm _ _).nodup_iff.mpr okg.nd
  have fewP : (gPl PL).length ≤ 1000000 := by rw [hpl]; exact okg.fw
  have few : ∀ n, n ≤ 1000000 → n < sizeLine := fun n h => by rw [sizeLine_eq]; omega
  refine ⟨.ref x, h0, x, _, dx, _, .ref pl, rfl, B2.ax.h, cl, na1, rfl, pl, rfl, ⟨_, SqL.of B2.ap.h⟩, fun ad had => ?_⟩
  have ad0 := old_none B2.T B2.o had
  refine dc_lst (K := X.K) (a := pl) (xs := (gPl PL).map V.str) (fun i H => ∃ la : Str → Addr, Bs C θ0 F0 H0 ow0 θ F ow st x dx pl pp [("own_places", .ref pl), ("own_paths", .ref pp)] (gPl PL) bs (gPa EL) H ∧ At H F ow ad (.dK (((gPl PL).take i).map fun s => (Sum.inr s, V.ref (la s)))) ∧
    (∀ s ∈ (gPl PL).take i, At H F ow (la s) (.lst []) ∧ H0 (la s) = none ∧ la s ≠ pl ∧ la s ≠ pp) ∧ ∀ s ∈ (gPl PL).take i, ∀ t ∈ (gPl PL).take i, la s = la t → s = t)
    ⟨fun _ => 0, B2.new had, At.new B2.o had, by simp, by simp⟩ (fun i H _ h => by obtain ⟨la, B, _⟩ := h; exact SqL.of B.ap.h) ?_ ?_
  · rintro i xv H3 hx ⟨la, B, aD, aL, inj⟩
    rw [List.getElem?_map] at hx
    obtain ⟨s, es, rfl⟩ := Option.map_eq_some_iff.mp hx
    have hi : i < (gPl PL).length := (List.getElem?_eq_some_iff.mp es).1
    have hs' : (gPl PL)[i] = s := (List.getElem?_eq_some_iff.mp es).2
    have hsn : s ∉ (gPl PL).take i := fun hin => by
      obtain ⟨j, hj, e⟩ := List.mem_iff_getElem.mp hin
      rw [List.getElem_take] at e
      have hj' : j < i := by simp at hj; omega
      have := (List.pairwise_iff_getElem.mp ndP) j i (by omega) hi hj'
      rw [e, hs'] at this
      exact this rfl
    show wipe ((wipe σ [9]).set 9 (some (.str s))) [9] = wipe σ [9] ∧ _
    refine ⟨by rw [wipe_set (by simp), wipe_wipe], ?_⟩
    refine tYes_of ?_
    refine ⟨.str s, by rw [List.getElem?_set_self (by rw [wipe_length]; omega)], ?_⟩
    refine ⟨Nat.zero_le _, fun p hp => ?_⟩
    have hpD := ne_at aD.h hp
    have aD' : At (upd H3 p (.lst [])) F ow ad _ := aD.upd hpD
    refine ⟨_, .inr s, rfl, aD'.h, by rw [List.length_map, List.length_take]; exact few _ (by omega), ?_⟩
    rw [putK_new _ (valV_no hsn)]
    have B' := B.new (a := p) (o := .lst []) hp
    have neqs : ∀ {u : Addr} {o' : HO}, H3 u = some o' → u ≠ p := fun h => ne_at h hp
    have p0 := old_none B.T B.o hp
    have hDx : ad ≠ x := fun z => by have := aD.h; rw [z, B.ax.h] at this; cases this
    have hDp : ad ≠ pl := fun z => by have := aD.h; rw [z, B.ap.h] at this; cases this
    have hDq : ad ≠ pp := fun z => by have := aD.h; rw [z, B.aq.h] at this; cases this
    refine ⟨fun t => if t = s then p else la t, B'.chg ad0 aD' hDx hDp hDq (fun _ z => by cases z) (fun _ z => by cases z), ?_, ?_, ?_⟩
    · have e : ((gPl PL).take (i + 1)).map (fun t => ((Sum.inr t : L2.Key), V.ref (if t = s then p else la t))) = (((gPl PL).take i).map fun t => (Sum.inr t, V.ref (la t))) ++ [(Sum.inr s, .ref p)] := by
        rw [List.take_succ_eq_append_getElem hi, List.map_append, hs']
        congr 1
        · apply List.map_congr_left
          intro t ht
          rw [if_neg (fun z : t = s => hsn (z ▸ ht))]
        · simp
      rw [e]
      exact aD'.same
    · intro t ht
      rw [List.take_succ_eq_append_getElem hi, hs', List.mem_append] at ht
      by_cases z : t = s
      · simp only [z, if_true]
        exact ⟨(At.new B.o hp).upd hpD.symm, p0, (neqs B.ap.h).symm, (neqs B.aq.h).symm⟩
      · simp only [z, if_false]
        have ht' : t ∈ (gPl PL).take i := by
          rcases ht with h | h
          · exact h
          · simp at h; exact absurd h z
        obtain ⟨a1, a2, a3, a4⟩ := aL t ht'
        exact ⟨(a1.upd (neqs a1.h)).upd (fun z => by have := a1.h; rw [z, aD.h] at this; cases this), a2, a3, a4⟩
    · intro t ht u hu e
      rw [List.take_succ_eq_append_getElem hi, hs', List.mem_append] at ht hu
      have mem : ∀ {t}, (t ∈ (gPl PL).take i ∨ t ∈ [s]) → t ≠ s → t ∈ (gPl PL).take i := fun h n => by
        rcases h with h | h
        · exact h
        · simp at h; exact absurd h n
      by_cases z1 : t = s <;> by_cases z2 : u = s
      · rw [z1, z2]
      · simp only [z1, z2, if_true, if_false] at e
        exact absurd e.symm (neqs (aL u (mem hu z2)).1.h)
      · simp only [z1, z2, if_true, if_false] at e
        exact absurd e (neqs (aL t (mem ht z1)).1.h)
      · simp only [z1, z2, if_false] at e
        exact inj t (mem ht z1) u (mem hu z2) e
  · rintro H3 ⟨la, B3, aD3, aL, inj⟩
    rw [List.length_map, List.take_length] at aD3 aL inj
    clear B2 had
    have lenA : ∀ {i} (s : Str), (arnd ((gPa EL).take i) s).length < sizeLine := fun {i} s => by
      have h1 := arnd_len ((gPa EL).take i) s
      have h2 : (gPa EL).length = EL.length := by
        have := (List.mergeSort_perm (EL.map norm) (PySem.W.dataLe false pdS)).length_eq
        rw [List.length_map] at this
        exact this
      rw [List.length_take] at h1
      have := okg.fe
      exact few _ (by omega)
    have hDx : ad ≠ x := fun z => by have := aD3.h; rw [z, B3.ax.h] at this; cases this
    refine ⟨.ref x, h0, x, _, dx, _, rfl, B3.ax.h, cl, na3, (by show 2 < 1000; decide), ?_⟩
    have B4 : Bs C θ0 F0 H0 ow0 θ F ow st x dx pl pp [("own_places", .ref pl), ("own_paths", .ref pp), ("own_around", .ref ad)] (gPl PL) bs (gPa EL) (upd H3 x (.ins (C.cls "Ground") dx [("own_places", .ref pl), ("own_paths", .ref pp), ("own_around", .ref ad)])) := B3.fld hx0
    have aD4 := aD3.upd (u := .ins (C.cls "Ground") dx [("own_places", .ref pl), ("own_paths", .ref pp), ("own_around", .ref ad)]) hDx
    have aL4 : ∀ s ∈ gPl PL, At (upd H3 x (.ins (C.cls "Ground") dx [("own_places", .ref pl), ("own_paths", .ref pp), ("own_around", .ref ad)])) F ow (la s) (.lst []) := fun s hs => (aL s hs).1.upd fun z => by have := (aL s hs).1.h; rw [z, B3.ax.h] at this; cases this
    have aN : ∀ s ∈ gPl PL, H0 (la s) = none ∧ la s ≠ pl ∧ la s ≠ pp := fun s hs => (aL s hs).2
    show SemB X _ _ _ (upd H3 x (.ins (C.cls "Ground") dx [("own_places", .ref pl), ("own_paths", .ref pp), ("own_around", .ref ad)]))
    generalize upd H3 x (.ins (C.cls "Ground") dx [("own_places", .ref pl), ("own_paths", .ref pp), ("own_around", .ref ad)]) = H4 at *
    clear B3 aD3 aL
    -- for one, other in self.own_paths
    refine semb_cons (ss (ps_for XF.ps okx.calm (pi_list (pe_fld nS rfl)) (pg_tup okx.calm (pgs_cons (pg_name (i := 7) nd (by rw [hN]; rfl) (loc_of l7) (.inl (XF.fn _))) (pgs_cons (pg_name (i := 8) nd (by rw [hN]; rfl) (loc_of l8) (.inl (XF.fn _))) pgs_nil)) (n := 2)) pss_sem) ?_)
    refine ⟨.ref x, h0, x, _, dx, _, .ref pp, rfl, B4.ax.h, cl, na2, rfl, pp, rfl, ⟨_, SqL.of B4.aq.h⟩, ?_⟩
    refine for_list (K := X.K) (a := pp) (xs := bs.map V.ref) (fun i σ H => σ[0]? = some (some (.ref x)) ∧ σ.length = 11 ∧ Bs C θ0 F0 H0 ow0 θ F ow st x dx pl pp [("own_places", .ref pl), ("own_paths", .ref pp), ("own_around", .ref ad)] (gPl PL) bs (gPa EL) H ∧
      At H F ow ad (.dK ((gPl PL).map fun s => (Sum.inr s, V.ref (la s)))) ∧ ∀ s ∈ gPl PL, At H F ow (la s) (.lst ((arnd ((gPa EL).take i) s).map V.str)))
      ⟨h0, hl, B4, aD4, fun s hs => aL4 s hs⟩ (fun i σ H _ h => SqL.of h.2.2.1.aq.h) ?_ ?_
    · rintro i xv σ5 H5 hx ⟨s0, sl, B5, aD5, aL5⟩
      obtain ⟨b, e, rfl, he, hbt⟩ := Tups.at B5.tp hx
      have hi : i < (gPa EL).length := (List.getElem?_eq_some_iff.mp he).1
      have hei : (gPa EL)[i] = e := (List.getElem?_eq_some_iff.mp he).2
      obtain ⟨m1, m2, m3⟩ := gPa_mem okg (show e ∈ gPa EL by rw [← hei]; exact List.getElem_mem hi)
      have ninj : la e.1 ≠ la e.2 := fun z => m3 (inj _ m1 _ m2 z)
      have nad : ∀ s ∈ gPl PL, la s ≠ ad := fun s hs z => by have := (aL5 s hs).h; rw [z, aD5.h] at this; cases this
      have nlx : ∀ s ∈ gPl PL, la s ≠ x := fun s hs z => by have := (aL5 s hs).h; rw [z, B5.ax.h] at this; cases this
      refine ⟨b, _, rfl, SqT.of hbt, rfl, .str e.1, [.str e.2], rfl, .str e.2, [], rfl, rfl, ?_⟩
      have z7 : ((σ5.set 7 (some (.str e.1))).set 8 (some (.str e.2)))[7]? = some (some (.str e.1)) := by
        rw [List.getElem?_set_ne (by decide), List.getElem?_set_self (by omega)]
      have z8 : ((σ5.set 7 (some (.str e.1))).set 8 (some (.str e.2)))[8]? = some (some (.str e.2)) := by
        rw [List.getElem?_set_self (by rw [List.length_set]; omega)]
      have z0 : ((σ5.set 7 (some (.str e.1))).set 8 (some (.str e.2)))[0]? = some (some (.ref x)) := by
        rw [List.getElem?_set_ne (by decide), List.getElem?_set_ne (by decide)]; exact s0
      have zl : ((σ5.set 7 (some (.str e.1))).set 8 (some (.str e.2))).length = 11 := by simp [sl]
      generalize (σ5.set 7 (some (.str e.1))).set 8 (some (.str e.2)) = σ6 at *
      refine semb_cons (ss (ps_expr (pe_bm PySem.F.plainAttrs_list PySem.F.slot_list_append PySem.F.type_list_append mt_append (pe_dget hu (pe_fld nS rfl) nO (fun _ _ => rfl)) (pa_cons nT pa_nil) (hline := hq2))) ?_)
      refine ⟨.ref x, z0, x, _, dx, _, .ref ad, rfl, B5.ax.h, cl, na3, rfl, .str e.1, z7, ad, .ref (la e.1), rfl, .inl ⟨_, .inr e.1, .inl aD5.h, rfl, (valV_yes (f := fun s => V.ref (la s)) m1).symm⟩, .inl ⟨rfl, _, SqL.of (aL5 _ m1).h⟩, .str e.2, z8, la e.1, _, .str e.2, rfl, rfl, (aL5 _ m1).h, by rw [List.length_map]; exact lenA _, ?_⟩
      have B6 := B5.chg (o := .lst ((arnd ((gPa EL).take i) e.1).map V.str ++ [.str e.2])) (aN _ m1).1 (aL5 _ m1) (nlx _ m1) (aN _ m1).2.1 (aN _ m1).2.2 (fun _ z => by cases z) (fun _ z => by cases z)
      have aD6 := aD5.upd (u := .lst ((arnd ((gPa EL).take i) e.1).map V.str ++ [.str e.2])) (nad _ m1).symm
      have aA6 := (aL5 _ m1).same (u := .lst ((arnd ((gPa EL).take i) e.1).map V.str ++ [.str e.2]))
      have aO6 : ∀ s ∈ gPl PL, s ≠ e.1 → At (upd H5 (la e.1) (.lst ((arnd ((gPa EL).take i) e.1).map V.str ++ [.str e.2]))) F ow (la s) (.lst ((arnd ((gPa EL).take i) s).map V.str)) := fun s hs n => (aL5 s hs).upd fun z => n (inj _ hs _ m1 z)
      show SemB X _ _ _ (upd H5 (la e.1) (.lst ((arnd ((gPa EL).take i) e.1).map V.str ++ [.str e.2])))
      generalize upd H5 (la e.1) (.lst ((arnd ((gPa EL).take i) e.1).map V.str ++ [.str e.2])) = H6 at *
      refine semb_cons (ss (ps_expr (pe_bm PySem.F.plainAttrs_list PySem.F.slot_list_append PySem.F.type_list_append mt_append (pe_dget hu (pe_fld nS rfl) nT (fun _ _ => rfl)) (pa_cons nO pa_nil) (hline := hq3))) ?_)
      have aB6 := aO6 _ m2 (Ne.symm m3)
      refine ⟨.ref x, z0, x, _, dx, _, .ref ad, rfl, B6.ax.h, cl, na3, rfl, .str e.2, z8, ad, .ref (la e.2), rfl, .inl ⟨_, .inr e.2, .inl aD6.h, rfl, (valV_yes (f := fun s => V.ref (la s)) m2).symm⟩, .inl ⟨rfl, _, SqL.of aB6.h⟩, .str e.1, z7, la e.2, _, .str e.1, rfl, rfl, aB6.h, by rw [List.length_map]; exact lenA _, ?_⟩
      refine semb_nil ?_
      refine ⟨z0, zl, B6.chg (aN _ m2).1 aB6 (nlx _ m2) (aN _ m2).2.1 (aN _ m2).2.2 (fun _ z => by cases z) (fun _ z => by cases z), aD6.upd (nad _ m2).symm, fun s hs => ?_⟩
      rw [arnd_succ hi, hei]
      by_cases y1 : e.1 = s
      · subst y1
        rw [if_pos rfl, List.map_append]
        exact aA6.upd ninj
      · rw [if_neg y1]
        by_cases y2 : e.2 = s
        · subst y2
          rw [if_pos rfl, List.map_append]
          exact aB6.same
        · rw [if_neg y2, List.append_nil]
          exact (aO6 s hs (fun z => y1 z.symm)).upd fun z => y2 (inj _ hs _ m2 z).symm
    · rintro σ5 H5 ⟨s0, sl, B5, aD5, aL5⟩
      have hbl : (bs.map V.ref).length = (gPa EL).length := by
        rw [List.length_map]
        exact Paired.length B5.tp
      rw [hbl, List.take_length] at aL5
      clear B4 aD4 aL4
      -- self.own_around = {place: sorted(some) for place, some in self.own_around.items()}
      refine semb_cons (ss (ps_fld nS (pe_lock (pe_dc (own := [("place", 9), ("some", 10)]) okx.calm nd (pi_items (pe_fld nS rfl) (by rfl) hq4) (by rw [hN]; exact blkOk_by b2) (comp_pg hN okx.nd okx.calm g2) (fun _ _ _ _ _ => pts_nil)
        (fun s H c cl fp => n_var (X := X.blk s H sc2 (compEnvC sc2 cl c X.env) fp) (N := gN) (x := "place") (i := 9) hN (by decide) w2 (by decide))
        (fun s H c cl fp => pe_callB (X := X.blk s H sc2 (compEnvC sc2 cl c X.env) fp) (cr_bi (C := C) (X := X.blk s H sc2 (compEnvC sc2 cl c X.env) fp) okx.hK okx.calm okx.un .sorted) (gl_of (X := X.blk s H sc2 (compEnvC sc2 cl c X.env) fp) w4) hb1 (by decide +kernel) (pa_cons (n_var (X := X.blk s H sc2 (compEnvC sc2 cl c X.env) fp) (N := gN) (x := "some") (i := 10) hN (by decide) w3 (by decide)) pa_nil)))) rfl) ?_)
      refine ⟨ad, _, aD5.h, trivial, fun od => ?_⟩
      have nDp : ad ≠ pl := fun z => by have := aD5.h; rw [z, B5.ap.h] at this; cases this
      have nDq : ad ≠ pp := fun z => by have := aD5.h; rw [z, B5.aq.h] at this; cases this
      have B6 := B5.chg (o := .frz od (.dK ((gPl PL).map fun s => (Sum.inr s, V.ref (la s))))) ad0 aD5 hDx nDp nDq (fun _ z => by cases z) (fun _ z => by cases z)
      have aD6 := aD5.same (u := .frz od (.dK ((gPl PL).map fun s => (Sum.inr s, V.ref (la s)))))
      have aL6 : ∀ s ∈ gPl PL, At (upd H5 ad (.frz od (.dK ((gPl PL).map fun s => (Sum.inr s, V.ref (la s)))))) F ow (la s) (.lst ((arnd (gPa EL) s).map V.str)) := fun s hs => (aL5 s hs).upd fun z => by have := (aL5 s hs).h; rw [z, aD5.h] at this; cases this
      generalize upd H5 ad (.frz od (.dK ((gPl PL).map fun s => (Sum.inr s, V.ref (la s))))) = H6 at *
      refine ⟨.ref x, s0, x, _, dx, _, .ref ad, rfl, B6.ax.h, cl, na3, rfl, ad, od, _, rfl, aD6.h, fun dd hdd => ?_⟩
      have dd0 := old_none B6.T B6.o hdd
      refine dc_items (d := ad) (o := od) (kvs0 := (gPl PL).map fun s => (Sum.inr s, V.ref (la s))) (fun i H => ∃ lb : Str → Addr, Bs C θ0 F0 H0 ow0 θ F ow st x dx pl pp [("own_places", .ref pl), ("own_paths", .ref pp), ("own_around", .ref ad)] (gPl PL) bs (gPa EL) H ∧
        At H F ow ad (.frz od (.dK ((gPl PL).map fun s => (Sum.inr s, V.ref (la s))))) ∧ At H F ow dd (.dK (((gPl PL).take i).map fun s => (Sum.inr s, V.ref (lb s)))) ∧ (∀ s ∈ gPl PL, At H F ow (la s) (.lst ((arnd (gPa EL) s).map V.str))) ∧
        ∀ s ∈ (gPl PL).take i, At H F ow (lb s) (.lst ((srt Ev.D.str (arnd (gPa EL) s)).map V.str)) ∧ H0 (lb s) = none)
        ⟨fun _ => 0, B6.new hdd, aD6.upd (ne_at aD6.h hdd), At.new B6.o hdd, fun s hs => (aL6 s hs).upd (ne_at (aL6 s hs).h hdd), by simp⟩ (fun i H _ h => by obtain ⟨lb, _, h, _⟩ := h; exact h.h) ?_ ?_
      · rintro i kk0 vv Tt H7 hx ⟨lb, B, aA, aD, aL, aB⟩ hT
        rw [List.getElem?_map] at hx
        obtain ⟨s, es, e1⟩ := Option.map_eq_some_iff.mp hx
        cases e1
        have hi : i < (gPl PL).length := (List.getElem?_eq_some_iff.mp es).1
        have hs' : (gPl PL)[i] = s := (List.getElem?_eq_some_iff.mp es).2
        have hsm : s ∈ gPl PL := by rw [← hs']; exact List.getElem_mem hi
        have hsn : s ∉ (gPl PL).take i := fun hin => by
          obtain ⟨j, hj, e⟩ := List.mem_iff_getElem.mp hin
          rw [List.getElem_take] at e
          have hj' : j < i := by simp at hj; omega
          have := (List.pairwise_iff_getElem.mp ndP) j i (by omega) hi hj'
          rw [e, hs'] at this
          exact this rfl
        refine ⟨Tt, _, rfl, .inl (SqT.of upd_same), rfl, .str s, [.ref (la s)], rfl, .ref (la s), [], rfl, rfl, ?_⟩
        have B1 := B.new (a := Tt) (o := .tup [.str s, .ref (la s)]) hT
        have aA1 := aA.upd (u := .tup [.str s, .ref (la s)]) (ne_at aA.h hT)
        have aD1 := aD.upd (u := .tup [.str s, .ref (la s)]) (ne_at aD.h hT)
        have aL1 : ∀ s' ∈ gPl PL, At (upd H7 Tt (.tup [.str s, .ref (la s)])) F ow (la s') (.lst ((arnd (gPa EL) s').map V.str)) := fun s' hs => (aL s' hs).upd (ne_at (aL s' hs).h hT)
        have aB1 : ∀ s' ∈ (gPl PL).take i, At (upd H7 Tt (.tup [.str s, .ref (la s)])) F ow (lb s') (.lst ((srt Ev.D.str (arnd (gPa EL) s')).map V.str)) ∧ H0 (lb s') = none := fun s' hs => ⟨(aB s' hs).1.upd (ne_at (aB s' hs).1.h hT), (aB s' hs).2⟩
        change _ ∧ tYes _ (upd H7 Tt (.tup [.str s, .ref (la s)])) _
        generalize upd H7 Tt (.tup [.str s, .ref (la s)]) = H8 at *
        show wipe (((wipe σ5 [9, 10]).set 9 (some (.str s))).set 10 (some (.ref (la s)))) [9, 10] = wipe σ5 [9, 10] ∧ _
        refine ⟨by rw [wipe_set (by simp), wipe_set (by simp), wipe_wipe], ?_⟩
        refine tYes_of ?_
        refine ⟨.str s, by rw [List.getElem?_set_ne (by decide), List.getElem?_set_self (by rw [wipe_length]; omega)], ?_⟩
        refine ⟨.ref (la s), by rw [List.getElem?_set_self (by rw [List.length_set, wipe_length]; omega)], ?_⟩
        refine ⟨θ, F, H8, [.lst ((arnd (gPa EL) s).map .str)], .lst ((srt Ev.D.str (arnd (gPa EL) s)).map .str), B1.o.le, Le.refl _, ⟨.ref (la s), [], rfl, ⟨la s, _, rfl, (aL1 s hsm).h, strs_rs⟩, rfl⟩, ?_, fun p vs hp rs => ?_⟩
        · show (sortD ((arnd (gPa EL) s).map .str)).map Ev.D.lst = _
          have := lenA (i := (gPa EL).length) s
          rw [List.take_length, sizeLine_eq] at this
          rw [sort_strs (by omega)]
          rfl
        · cases rs_strs rs
          have hpD := ne_at aD1.h hp
          have aD' := aD1.upd (u := .lst ((srt Ev.D.str (arnd (gPa EL) s)).map V.str)) hpD
          have p0 := old_none B1.T B1.o hp
          have B' := B1.new (a := p) (o := .lst ((srt Ev.D.str (arnd (gPa EL) s)).map V.str)) hp
          have kDx : dd ≠ x := fun z => by have := aD1.h; rw [z, B1.ax.h] at this; cases this
          have kDp : dd ≠ pl := fun z => by have := aD1.h; rw [z, B1.ap.h] at this; cases this
          have kDq : dd ≠ pp := fun z => by have := aD1.h; rw [z, B1.aq.h] at this; cases this
          have kDa : ad ≠ dd := fun z => by have := aA1.h; rw [z, aD1.h] at this; cases this
          refine ⟨_, .inr s, rfl, aD'.h, by rw [List.length_map, List.length_take]; exact few _ (by omega), ?_⟩
          rw [putK_new _ (valV_no hsn)]
          refine ⟨fun t => if t = s then p else lb t, B'.chg dd0 aD' kDx kDp kDq (fun _ z => by cases z) (fun _ z => by cases z), (aA1.upd (ne_at aA1.h hp)).upd kDa, ?_, fun s' hs => ((aL1 s' hs).upd (ne_at (aL1 s' hs).h hp)).upd (fun z => by have := (aL1 s' hs).h; rw [z, aD1.h] at this; cases this), ?_⟩
          · have e : ((gPl PL).take (i + 1)).map (fun t => ((Sum.inr t : L2.Key), V.ref (if t = s then p else lb t))) = (((gPl PL).take i).map fun t => (Sum.inr t, V.ref (lb t))) ++ [(Sum.inr s, .ref p)] := by
              rw [List.take_succ_eq_append_getElem hi, List.map_append, hs']
              congr 1
              · apply List.map_congr_left
                intro t ht
                rw [if_neg (fun z : t = s => hsn (z ▸ ht))]
              · simp
            rw [e]
            exact aD'.same
          · intro t ht
            rw [List.take_succ_eq_append_getElem hi, hs', List.mem_append] at ht
            by_cases z : t = s
            · simp only [z, if_true]
              exact ⟨(At.new B1.o hp).upd hpD.symm, p0⟩
            · simp only [z, if_false]
              have ht' : t ∈ (gPl PL).take i := by
                rcases ht with h | h
                · exact h
                · simp at h; exact absurd h z
              obtain ⟨a1, a2⟩ := aB1 t ht'
              exact ⟨(a1.upd (ne_at a1.h hp)).upd (fun z => by have := a1.h; rw [z, aD1.h] at this; cases this), a2⟩
      · rintro H7 ⟨lb, B, aA, aD, aL, aB⟩
        rw [List.length_map, List.take_length] at aD aB
        refine ⟨aA.h, ?_⟩
        have kDa : dd ≠ ad := fun z => by have := aA.h; rw [← z, aD.h] at this; cases this
        have B7 := B.chg (o := .dK ((gPl PL).map fun s => (Sum.inr s, V.ref (la s)))) ad0 aA hDx nDp nDq (fun _ z => by cases z) (fun _ z => by cases z)
        have aD7 := aD.upd (u := .dK ((gPl PL).map fun s => (Sum.inr s, V.ref (la s)))) kDa
        have aB7 : ∀ s ∈ gPl PL, At (upd H7 ad (.dK ((gPl PL).map fun s => (Sum.inr s, V.ref (la s))))) F ow (lb s) (.lst ((srt Ev.D.str (arnd (gPa EL) s)).map V.str)) ∧ H0 (lb s) = none := fun s hs => ⟨(aB s hs).1.upd (fun z => by have := (aB s hs).1.h; rw [z, aA.h] at this; cases this), (aB s hs).2⟩
        generalize upd H7 ad (.dK ((gPl PL).map fun s => (Sum.inr s, V.ref (la s)))) = H8 at *
        refine ⟨.ref x, s0, x, _, dx, _, rfl, B7.ax.h, cl, na3, (by show 3 < 1000; decide), ?_⟩
        have B8 : Bs C θ0 F0 H0 ow0 θ F ow st x dx pl pp [("own_places", .ref pl), ("own_paths", .ref pp), ("own_around", .ref dd)] (gPl PL) bs (gPa EL) (upd H8 x (.ins (C.cls "Ground") dx [("own_places", .ref pl), ("own_paths", .ref pp), ("own_around", .ref dd)])) := B7.fld hx0
        have aD8 := aD7.upd (u := .ins (C.cls "Ground") dx [("own_places", .ref pl), ("own_paths", .ref pp), ("own_around", .ref dd)]) (fun z => by have := aD7.h; rw [z, B7.ax.h] at this; cases this)
        have aB8 : ∀ s ∈ gPl PL, At (upd H8 x (.ins (C.cls "Ground") dx [("own_places", .ref pl), ("own_paths", .ref pp), ("own_around", .ref dd)])) F ow (lb s) (.lst ((srt Ev.D.str (arnd (gPa EL) s)).map V.str)) ∧ H0 (lb s) = none := fun s hs => ⟨(aB7 s hs).1.upd (fun z => by have := (aB7 s hs).1.h; rw [z, B7.ax.h] at this; cases this), (aB7 s hs).2⟩
        refine semb_nil ?_
        show D.nx σ5 (upd H8 x (.ins (C.cls "Ground") dx [("own_places", .ref pl), ("own_paths", .ref pp), ("own_around", .ref dd)]))
        generalize upd H8 x (.ins (C.cls "Ground") dx [("own_places", .ref pl), ("own_paths", .ref pp), ("own_around", .ref dd)]) = H9 at *
        have hfr : ∀ a, (a = x ∨ a = pl ∨ a = pp ∨ a = dd ∨ a ∈ bs ∨ ∃ s ∈ gPl PL, a = lb s) → (H0 a = none ∧ ∃ u, At H9 F ow a u) ∨ ∃ xs, H9 a = some (.tup xs) := by
          intro a ha
          rcases ha with rfl | rfl | rfl | rfl | ha | ⟨s, hs, rfl⟩
          · exact .inl ⟨hx0, _, B8.ax⟩
          · exact .inl ⟨pl0, _, B8.ap⟩
          · exact .inl ⟨pp0, _, B8.aq⟩
          · exact .inl ⟨dd0, _, aD8⟩
          · obtain ⟨e, he⟩ := tups_mem B8.tp ha
            exact .inr ⟨_, he⟩
          · exact .inl ⟨(aB8 s hs).2, _, (aB8 s hs).1⟩
        obtain ⟨F', T', o', hS⟩ := freezeAll B8.o B8.T hfr
        refine kk σ5 H9 θ F' ow T' o' ?_
        have fx := (hS x (.inl rfl)).trans B8.ax.h
        have fp := (hS pl (.inr (.inl rfl))).trans B8.ap.h
        have fq := (hS pp (.inr (.inr (.inl rfl)))).trans B8.aq.h
        have fd := (hS dd (.inr (.inr (.inr (.inl rfl))))).trans aD8.h
        exact ⟨x, dx, _, rfl, fx, .ref pl, _, rfl, ⟨pl, _, rfl, fp, strs_rs⟩, .ref pp, _, rfl, ⟨pp, _, rfl, fq, rs_tups B8.tp fun b hb => hS b (.inr (.inr (.inr (.inr (.inl hb)))))⟩, .ref dd, [], rfl, ⟨dd, _, rfl, .inl fd,
          rk_lists (L := gPl PL) (fun s hs => (hS (lb s) (.inr (.inr (.inr (.inr (.inr ⟨s, hs, rfl⟩)))))).trans (aB8 s hs).1.h)⟩, rfl⟩
end
end Ev
/-! EvG1 -/
namespace Ev
open PySem PySem.Spec PyProof.Rows L2
section
variable {g : Gi} {C : Ctx} {tb : Str × Option Str → Option FnI} {pr : PrimF} {P : Program} {w : World} {K : PySem.W.Frag} {mg : Str → Option Value} {base : Heap} {k : Nat} {cs : List Str}
  {q1 q2 q3 q4 q5 q6 q7 q8 q9 q10 q11 q12 q13 q14 q15 q16 q17 q18 q19 q20 q21 q22 q23 q24 q25 q26 q27 q28 q29 q30 q31 q32 q33 q34 q35 q36 q37 q38 q39 q40 q41 q42 q43 q44 q45 q46 q47 q48 q49 q50 q51 q52 q53 q54 q55 q56 q57 q58 q59 q60 q61 q62 q63 q64 q65 q66 q67 q68 q69 q70 q71 q72 q73 q74 q75 q76 q77 q78 q79 q80 q81 q82 q83 q84 q85 q86 q87 q88 : Pos}
  {e1 e2 e3 e4 e5 e6 e7 : Expr} {r1 r2 r3 : List Stmt} {j1 j2 k1 k2 k3 k4 k5 : Nat} {sc1 sc2 scope : Scope}
theorem ground_fn (G : GOk g C (callF tb pr (k + 6)) P w K mg base (3 * (k + 6))) (CM : Com tb pr cs)
    {nm qual : Str} {params : Arguments} {f : Addr} {fd : FuncData} {nmp qualp : Str} {paramsp : Arguments} {bodyp : List Stmt} {scopep : Scope} {fp : Addr} {fdp : FuncData} {Np : List Str}
    (Fp : FunD K nmp qualp paramsp bodyp scopep [] [] fp fdp) (hSp : fnScopeB Np ["self", "thing"] scopep = true) (hcp : mapO (compS g Np scopep 30) bodyp = some (f_Ground_is_pair cs).body) (hnp : (f_Ground_is_pair cs).ns = Np.length) (hbp : Binds K fdp ["self", "thing"] [])
    (cl : Cls K (C.cls "Ground")) (na1 : NoAttr K (C.cls "Ground") "own_places") (na2 : NoAttr K (C.cls "Ground") "own_paths") (na3 : NoAttr K (C.cls "Ground") "own_around") (me : Meth K (C.cls "Ground") "is_pair" fp)
    (hq1 : (q22.endLine == q24.line) = true) (hq2 : (q61.endLine == q63.line) = true) (hq3 : (q69.endLine == q71.line) = true) (hq4 : (q82.endLine == q83.line) = true)
    (hb0 : mg "enumerate" = none) (hb1 : mg "sorted" = none)
    (hS : fnScopeB gN ["self", "places", "paths"] scope = true)
    (hsc : (gN.take 9).all (fun x => visB scope x && locB scope x) = true) (hgs : (["enumerate", "sorted"] : List Str).all (fun x => glB scope x) = true)
    (c1 : compE g gN 30 scope e1 = some (.call "first_bad_place" [.v 1] [0])) (i1 : isCompB e1 = false)
    (c2 : compE g gN 30 scope e2 = some (.bi .sorted [.v 1])) (i2 : isCompB e2 = false)
    (c3 : compE g gN 30 scope e3 = some (.call "is_list" [.v 2] [0]))
    (c4 : compE g gN 30 scope e4 = some (.bi .min [.v 6])) (c5 : compE g gN 30 scope e5 = some (.bi .max [.v 6])) (c6 : compE g gN 30 scope e6 = some (.bi .min [.v 6])) (c7 : compE g gN 30 scope e7 = some (.bi .max [.v 6]))
    (b1 : blkC gN scope sc1 [("place", 9)] = true) (g1 : tgOf gN sc1 (.Name "place" q47) = some (.n 9)) (w1 : visB (relS sc1 scope) "place" = true)
    (b2 : blkC gN scope sc2 [("place", 9), ("some", 10)] = true) (g2 : tgOf gN sc2 (.Tuple [.Name "place" q77, .Name "some" q78] k5 q79) = some (.t [.n 9, .n 10])) (w2 : visB (relS sc2 scope) "place" = true) (w3 : visB (relS sc2 scope) "some" = true) (w4 : glB (relS sc2 scope) "sorted" = true)
    (F : FunD K nm qual params [
      .Assign [.Name "wrong" q1] e1 q2,
      .If (.Compare (.Name "wrong" q3) [.IsNot] [.Constant .none j1 q4] q5) r1 [] q6,
      .Assign [.Attribute (.Name "self" q7) "own_places" q8] e2 q9,
      .If (.UnaryOp .Not e3 q10) r2 [] q11,
      .Assign [.Name "known" q12] (.Dict [] [] q13) q14,
      .For (.Tuple [.Name "index" q15, .Name "path" q16] k1 q17) (.Call (.Name "enumerate" q18) [.Name "paths" q19] [] q20) [
        .If (.BoolOp .Or [.UnaryOp .Not (.Call (.Attribute (.Name "self" q21) "is_pair" q22) [.Name "path" q23] [] q24) q25, .Compare (.Tuple [e4, e5] k2 q26) [.In] [.Name "known" q27] q28] q29) r3 [] q30,
        .Assign [.Subscript (.Name "known" q31) (.Tuple [e6, e7] k3 q32) q33] (.Constant (.bool true) j2 q34) q35] [] q36,
      .Assign [.Attribute (.Name "self" q37) "own_paths" q38] (.Call (.Name "sorted" q39) [.Name "known" q40] [] q41) q42,
      .Assign [.Attribute (.Name "self" q43) "own_around" q44] (.DictComp (.Name "place" q45) (.List [] q46) [⟨.Name "place" q47, .Attribute (.Name "self" q48) "own_places" q49, [], 0⟩] sc1 q50) q51,
      .For (.Tuple [.Name "one" q52, .Name "other" q53] k4 q54) (.Attribute (.Name "self" q55) "own_paths" q56) [
        .Expr (.Call (.Attribute (.Subscript (.Attribute (.Name "self" q57) "own_around" q58) (.Name "one" q59) q60) "append" q61) [.Name "other" q62] [] q63) q64,
        .Expr (.Call (.Attribute (.Subscript (.Attribute (.Name "self" q65) "own_around" q66) (.Name "other" q67) q68) "append" q69) [.Name "one" q70] [] q71) q72] [] q73,
      .Assign [.Attribute (.Name "self" q74) "own_around" q75] (.DictComp (.Name "place" q76) (.Call (.Name "sorted" q86) [.Name "some" q87] [] q88) [⟨.Tuple [.Name "place" q77, .Name "some" q78] k5 q79, .Call (.Attribute (.Attribute (.Name "self" q80) "own_around" q81) "items" q82) [] [] q83, [], 0⟩] sc2 q84) q85] scope [] [] f fd) :
    FnOk P w K mg base CX0 (3 * (k + 6) + 3) f fd ["self", "places", "paths"] (spI C (fun _ as st => groundP as st) 2 "Ground") := by
  have SC := fnScope_of hS
  have FP := fn_run G Fp hSp hcp hnp
  refine F.ok SC (fun vs H Q E q => by obtain ⟨h, _⟩ := q; simpa using h) fun cdv A outer s H vs Q E hr hsp => ?_
  obtain ⟨hl, x, dx, H0, rest, θ, F0, ow, st, as, t, st1, rfl, hx0, hdx0, hne, rfl, ok, ra, ec, kk⟩ := hsp
  obtain ⟨dp, de, PL, EL, ds, rfl, sp, se, sa, okg, rfl, rfl⟩ := groundP_inv ec
  obtain ⟨vp, rest, rfl, rp, ra⟩ := ra
  obtain ⟨ve, rest, rfl, re, ra⟩ := ra
  cases ra
  have XF := G.xfn (A := A) (outer := outer) (s := s) (H := upd (upd H0 dx (.own x)) x (.ins (C.cls "Ground") dx [])) (E := E) (cd := cdv) (f := f) (qual := qual) SC (hr.mono (by omega))
  have FP' : FnOk (cxOf CX0 P w K mg base gN qual scope f cdv A outer s (upd (upd H0 dx (.own x)) x (.ins (C.cls "Ground") dx [])) E).prog (cxOf CX0 P w K mg base gN qual scope f cdv A outer s (upd (upd H0 dx (.own x)) x (.ins (C.cls "Ground") dx [])) E).w (cxOf CX0 P w K mg base gN qual scope f cdv A outer s (upd (upd H0 dx (.own x)) x (.ins (C.cls "Ground") dx [])) E).K (cxOf CX0 P w K mg base gN qual scope f cdv A outer s (upd (upd H0 dx (.own x)) x (.ins (C.cls "Ground") dx [])) E).mg (cxOf CX0 P w K mg base gN qual scope f cdv A outer s (upd (upd H0 dx (.own x)) x (.ins (C.cls "Ground") dx [])) E).base CX0 (3 * (k + 6) + 2) fp fdp ["self", "thing"] (spR C (callF tb pr (k + 6)) 2 (f_Ground_is_pair cs)) := FP
  have hrX : Room (3 * (k + 6) + 2) (cxOf CX0 P w K mg base gN qual scope f cdv A outer s (upd (upd H0 dx (.own x)) x (.ins (C.cls "Ground") dx [])) E).A := hr
  have eK : (cxOf CX0 P w K mg base gN qual scope f cdv A outer s (upd (upd H0 dx (.own x)) x (.ins (C.cls "Ground") dx [])) E).K = K := rfl
  have eS : (cxOf CX0 P w K mg base gN qual scope f cdv A outer s (upd (upd H0 dx (.own x)) x (.ins (C.cls "Ground") dx [])) E).env.scope = scope := rfl
  have eM : (cxOf CX0 P w K mg base gN qual scope f cdv A outer s (upd (upd H0 dx (.own x)) x (.ins (C.cls "Ground") dx [])) E).mg = mg := rfl
  refine ⟨SemB (cxOf CX0 P w K mg base gN qual scope f cdv A outer s (upd (upd H0 dx (.own x)) x (.ins (C.cls "Ground") dx [])) E) _, pss_sem, ?_⟩
  obtain ⟨o1, t1⟩ := ok.laid (o := .own x) hdx0
  have hxa : upd H0 dx (.own x) x = none := by rw [upd_ne (Ne.symm hne)]; exact hx0
  obtain ⟨o2, t2⟩ := o1.laid (o := .ins (C.cls "Ground") dx []) hxa
  have T0 := t1.trans o1 t2
  have ax : At (upd (upd H0 dx (.own x)) x (.ins (C.cls "Ground") dx [])) F0 ow x (.ins (C.cls "Ground") dx []) := ⟨upd_same, ok.noF hx0, ok.noO hx0⟩
  clear o1 t1 t2
  generalize upd (upd H0 dx (.own x)) x (.ins (C.cls "Ground") dx []) = Hs at *
  generalize hX : cxOf CX0 P w K mg base gN qual scope f cdv A outer s Hs E = X at *
  have okx := XF.ok
  have hN : X.N = gN := okx.hN
  have nd : X.N.Nodup := by rw [hN]; exact SC.nd
  have S := snd (C := C) (cf := callF tb pr (k + 6)) (g := g) (N := gN) 30 X okx
  simp only [gN, List.take, List.all_cons, List.all_nil, Bool.and_true, Bool.and_eq_true] at hsc hgs
  obtain ⟨⟨v0, l0⟩, ⟨v1, l1⟩, ⟨v2, l2⟩, ⟨v3, l3⟩, ⟨v4, l4⟩, ⟨v5, l5⟩, ⟨v6, l6⟩, ⟨v7, l7⟩, ⟨v8, l8⟩⟩ := hsc
  have ce : ∀ {e i}, compE g gN 30 scope e = some i → compE g gN 30 X.env.scope e = some i := fun h => by rw [eS]; exact h
  have vis : ∀ {y : Str}, visB scope y = true → visB X.env.scope y = true := fun h => by rw [eS]; exact h
  have loc : ∀ {y : Str}, locB scope y = true → Loc X.env.scope y := fun h => loc_of (by rw [eS]; exact h)
  have okd : ∀ {y : Str}, okN y = true → (y == ("__debug__" : Str)) = false := fun h => by
    unfold okN at h
    simp only [Bool.and_eq_true] at h
    simpa using h.1.1.1
  -- the names
  have nS : ∀ {p : Pos}, PE X (.Name "self" p) (tVar 0) := n_var (N := gN) hN (by decide) (vis v0) (by decide)
  have nK : ∀ {p : Pos}, PE X (.Name "known" p) (tVar 4) := n_var (N := gN) hN (by decide) (vis v4) (by decide)
  have nW : ∀ {p : Pos}, PE X (.Name "wrong" p) (tVar 3) := n_var (N := gN) hN (by decide) (vis v3) (by decide)
  have nP : ∀ {p : Pos}, PE X (.Name "path" p) (tVar 6) := n_var (N := gN) hN (by decide) (vis v6) (by decide)
  have nO : ∀ {p : Pos}, PE X (.Name "one" p) (tVar 7) := n_var (N := gN) hN (by decide) (vis v7) (by decide)
  have nT : ∀ {p : Pos}, PE X (.Name "other" p) (tVar 8) := n_var (N := gN) hN (by decide) (vis v8) (by decide)
  -- wrong = first_bad_place(places)
  refine semb_cons (ss (ps_set (i := 3) nd (by rw [hN]; rfl) (loc l3) pe_sem (sw_no i1 _ _ _) (.inl (XF.fn _))) ?_)
  have z0 : ZR C θ F0 [none, some (.fz dp), some (.fz de), none, none, none, none, none, none, none, none] [some (.ref x), some vp, some ve, none, none, none, none, none, none, none, none] := .non (.fz rp (.fz re (.non (.non (.non (.non (.non (.non (.non (.non .nil))))))))))
  have ev1 : evI (callF tb pr (k + 6)) [none, some (.fz dp), some (.fz de), none, none, none, none, none, none, none, none] (.call "first_bad_place" [.v 1] [0]) st1 = some (.non, st1) := by
    refine rn_eq ?_
    simp [first_bad_place_eq CM sp okg.ne (Nat.le_trans okg.fw (by decide)) okg.nd okg.nm]
  refine (S _ _ (ce c1)).E θ F0 Hs ow st1 _ _ .non st1 _ o2 z0.env ev1 fun v θ1 F1 H1 ow1 t1 o1 r1 => ?_
  cases (show v = .non from r1)
  have T1 := T0.trans o2 t1
  have ax1 := ax.stp t1
  have z1 := z0.mono t1.leF t1.th
  -- if wrong is not None
  refine semb_cons (ss (ps_if (pt_cmp (pc_notN nW) rfl) pss_never pss_nil) ?_)
  refine ⟨.non, rfl, false, rfl, ?_⟩
  -- self.own_places = sorted(places)
  show SemB X _ _ _ H1
  refine semb_cons (ss (ps_fld nS pe_sem (sw_no i2 _ _ _)) ?_)
  have z2 : ZR C θ1 F1 [none, some (.fz dp), some (.fz de), none, none, none, none, none, none, none, none] [some (.ref x), some vp, some ve, some .non, none, none, none, none, none, none, none] := .non (.fz (R.mono t1.leF t1.th _ _ rp) (.fz (R.mono t1.leF t1.th _ _ re) (.non (.non (.non (.non (.non (.non (.non (.non .nil))))))))))
  have ev2 : evTop (callF tb pr (k + 6)) [none, some (.fz dp), some (.fz de), none, none, none, none, none, none, none, none] (.bi .sorted [.v 1]) st1 = some (.ol ((gPl PL).map .str), st1) := by
    refine rn_eq ?_
    simp
    refine ⟨_, sp.sorted.trans (by rw [sort_strs (Nat.le_trans okg.fw (by decide))]; rfl), ?_⟩
    simp [ownT, gPl]
  refine (S _ _ (ce c2)).T θ1 F1 H1 ow1 st1 _ _ _ st1 _ o1 z2.env ev2 fun v θ2 F2 H2 ow2 t2 o2' r2 => ?_
  obtain ⟨pl, pvs, rfl, pl0, plF, plW, plH, plR⟩ := r2
  have T2 := T1.trans o1 t2
  have ax2 := ax1.stp t2
  have apl : At H2 F2 ow2 pl (.lst pvs) := ⟨plH, plF, plW⟩
  have pvs_eq : pvs = (gPl PL).map V.str := rs_strs plR
  subst pvs_eq
  have npl : pl ≠ x := fun z => by have := ax1.h; rw [← z, pl0] at this; cases this
  refine ⟨.ref x, rfl, x, _, dx, _, rfl, ax2.h, by rw [eK]; exact cl, by rw [eK]; exact na1, by decide, ?_⟩
  have oldpl := old_none T1 o1 pl0
  obtain ⟨o3, T3⟩ := chg (o := .ins (C.cls "Ground") dx [("own_places", .ref pl)]) o2' T2 hx0 ax2.f ax2.ns
  have ax3 : At (upd H2 x (.ins (C.cls "Ground") dx [("own_places", .ref pl)])) F2 ow2 x (.ins (C.cls "Ground") dx [("own_places", .ref pl)]) := ax2.same
  have apl3 := apl.upd (u := .ins (C.cls "Ground") dx [("own_places", .ref pl)]) npl
  show SemB X _ _ _ (upd H2 x (.ins (C.cls "Ground") dx [("own_places", .ref pl)]))
  generalize upd H2 x (.ins (C.cls "Ground") dx [("own_places", .ref pl)]) = H3 at *
  clear plR plH plF plW pl0
  have z3 := z2.mono t2.leF t2.th
  -- if not is_list(paths)
  refine semb_cons (ss (ps_if (pt_not pt_sem) pss_never pss_nil) ?_)
  have ev3 : evI (callF tb pr (k + 6)) [none, some (.fz dp), some (.fz de), none, none, none, none, none, none, none, none] (.call "is_list" [.v 2] [0]) st1 = some (.bl true, st1) := by
    refine rn_eq ?_
    simp [is_list_eq CM se]
  refine (S _ _ (ce c3)).C θ2 F2 H3 ow2 st1 _ _ true st1 _ o3 z3.env ev3 fun θ4 F4 H4 ow4 t4 o4 => ?_
  have T4 := T3.trans o3 t4
  have ax4 := ax3.stp t4
  have apl4 := apl3.stp t4
  have z4 := z3.mono t4.leF t4.th
  -- known = {}
  show SemB X _ _ _ H4
  refine semb_cons (ss (ps_set (i := 4) nd (by rw [hN]; rfl) (loc l4) pe_dnewT rfl (.inl (XF.fn _))) ?_)
  intro kd hkd
  obtain ⟨o5, t5⟩ := o4.laid (o := .dT []) hkd
  have T5 := T4.trans o4 t5
  have kd0 := old_none T4 o4 hkd
  have akd : At (upd H4 kd (.dT [])) F4 ow4 kd (.dT []) := At.new o4 hkd
  have nkx : kd ≠ x := fun z => by have := ax4.h; rw [← z, hkd] at this; cases this
  have nkp : kd ≠ pl := fun z => by have := apl4.h; rw [← z, hkd] at this; cases this
  have ax5 := ax4.upd (u := .dT []) (Ne.symm nkx)
  have apl5 := apl4.upd (u := .dT []) (Ne.symm nkp)
  show SemB X _ _ _ (upd H4 kd (.dT []))
  generalize upd H4 kd (.dT []) = H5 at *
  clear t5 o4 T4 ax4 apl4 hkd
  -- for index, path in enumerate(paths)
  have hu : X.A.units + 1 < cLine := by have := okx.un; omega
  have nPs : ∀ {p : Pos}, PE X (.Name "paths" p) (tVar 2) := n_var (N := gN) hN (by decide) (vis v2) (by decide)
  have hgE : Gl X "enumerate" := gl_of (by rw [eS]; exact hgs.1)
  refine semb_cons (ss (ps_for XF.ps okx.calm (pi_sem (tg := .Tuple [.Name "index" q15, .Name "path" q16] k1 q17)) (pg_tup okx.calm (pgs_cons (pg_name (i := 5) nd (by rw [hN]; rfl) (loc l5) (.inl (XF.fn _))) (pgs_cons (pg_name (i := 6) nd (by rw [hN]; rfl) (loc l6) (.inl (XF.fn _))) pgs_nil)) (n := 2)) pss_sem) ?_)
  have hlen : ds.length = EL.length := sa.length
  refine i_enum (C := C) (by rw [eK]; exact G.hK) hgE (by rw [eM]; exact hb0) rfl _ _ _ ?_
  refine Ev.sa (pa_cons nPs pa_nil) ⟨ve, rfl, ?_⟩
  have re5 : R C θ4 F4 de ve := by cases z4 with | non z => cases z with | fz r z => cases z with | fz r _ => exact r
  refine ⟨θ4, F4, ow4, st1, [de], _, o5, rbs_of o5.leN ⟨ve, [], rfl, re5, rfl⟩, se.enum, fun J hJ => ?_⟩
  let kvs : Nat → List (List L2.Key × V) := fun i => ((EL.map norm).take i).map fun e => (keyS e, V.bl true)
  let W : Nat → Nat → L2.St → Hp → Prop := fun i m σ H => m + i = ds.length ∧ ∃ θ' F' ow' s5 s6, σ = [some (.ref x), some vp, some ve, some .non, some (.ref kd), s5, s6, none, none, none, none] ∧ Stp θ F0 H0 ow θ' F' H ow' ∧ Hok θ' F' H ow' st1 ∧
    At H F' ow' x (.ins (C.cls "Ground") dx [("own_places", .ref pl)]) ∧ At H F' ow' pl (.lst ((gPl PL).map V.str)) ∧ At H F' ow' kd (.dT (kvs i)) ∧ Sx θ4 F4 θ' F'
  refine ⟨W, ⟨ds.length, rfl, θ4, F4, ow4, none, none, rfl, T5, o5, ax5, apl5, akd, Sx.refl⟩, ?_⟩
  rintro i m σ' H6 ⟨hm, θ6, F6, ow6, s5, s6, rfl, T6, o6, ax6, apl6, akd6, sx6⟩
  have Vt := hJ θ6 F6 H6 ow6 st1 o6 (rbs_of o6.leN ⟨ve, [], rfl, R.mono sx6.le sx6.1 _ _ re5, rfl⟩) i
  cases m with
  | zero =>
    have hi : i = ds.length := by omega
    refine .inl ⟨Vt.1 (by rw [List.length_mapIdx]; exact hi.symm), ?_⟩
    have ek : kvs i = (EL.map norm).map fun e => (keyS e, V.bl true) := by
      show ((EL.map norm).take i).map _ = _
      rw [List.take_of_length_le (by rw [List.length_map]; omega)]
    rw [ek] at akd6
    clear Vt hJ
    show SemB X _ _ _ H6
    exact ground_tail XF (by rw [eK]; exact cl) (by rw [eK]; exact na1) (by rw [eK]; exact na2) (by rw [eK]; exact na3) hq2 hq3 hq4 (by rw [eM]; exact hb1) (by rw [eS]; exact hgs.2) (vis v0) (vis v4) (vis v7) (vis v8) (by rw [eS]; exact l7) (by rw [eS]; exact l8)
      (by rw [eS]; exact b1) g1 (by rw [eS]; exact w1) (by rw [eS]; exact b2) g2 (by rw [eS]; exact w2) (by rw [eS]; exact w3) (by rw [eS]; exact w4) T6 o6 hx0 ax6 oldpl apl6 akd6 okg rfl rfl rfl (fun σ' H' θ' F' ow' t o r => kk θ' F' H' ow' t o r)
  | succ m =>
    have hi : i < ds.length := by omega
    have hiE : i < EL.length := by omega
    obtain ⟨pd, e1', e2'⟩ : ∃ pd, ds[i]? = some pd ∧ Sq pd [.str EL[i].1, .str EL[i].2] := all2_at sa hiE
    obtain ⟨hgo, hy⟩ := Vt.2 (.tup [.int i, pd]) (by rw [List.getElem?_mapIdx, e1']; rfl)
    refine .inr ⟨hgo, fun σ' H' => W (i + 1) m σ' H', fun σ' H' h => ⟨m, Nat.lt_succ_self _, h⟩, fun xv H7 hyl => ?_⟩
    obtain ⟨F7, t7, o7, r7⟩ := hy xv H7 hyl
    have T7 := T6.trans o6 t7
    have ax7 := ax6.stp t7
    have apl7 := apl6.stp t7
    have akd7 := akd6.stp t7
    obtain ⟨ta, tvs, rfl, tq, tr⟩ := r7
    obtain ⟨vi, tr1, rfl, ri, tr2⟩ := tr
    cases (show vi = .int i from ri)
    obtain ⟨vpath, tr3, rfl, rpath, tr4⟩ := tr2
    cases (show tr3 = [] from tr4)
    refine ⟨ta, _, rfl, by rw [eK, G.hK]; exact o7.le.sqt tq, rfl, .int i, [vpath], rfl, vpath, [], rfl, rfl, ?_⟩
    have ha := (okg.pr EL[i] (List.getElem_mem hiE)).1
    have hb := (okg.pr EL[i] (List.getElem_mem hiE)).2.1
    have hab := (okg.pr EL[i] (List.getElem_mem hiE)).2.2
    have hv : valV (kvs i) (keyS (norm EL[i])) = none := keys_new okg.un hiE
    have hk1 : putK (kvs i) (keyS (norm EL[i])) (.bl true) = kvs (i + 1) := by
      rw [putK_new _ hv]
      exact (keys_succ hiE).symm
    have hkl : (kvs i).length < sizeLine := by
      show (((EL.map norm).take i).map _).length < sizeLine
      have := okg.fe
      rw [sizeLine_eq, List.length_map, List.length_take, List.length_map]
      omega
    show SemB X _ _ [some (.ref x), some vp, some ve, some .non, some (.ref kd), some (.int i), some vpath, none, none, none, none] H7
    refine semb_cons (ss (ps_if (PW.pt (pw_or (pt_not (pt_val (pe_meth (E := fun _ _ _ => False) (dvs := []) (ds := []) nS (by rw [eK]; exact cl) (by rw [eK]; exact me) FP' hrX (by rw [eK]; exact hbp) .nil (fun _ _ _ _ _ _ _ h => h.elim) (pa_cons nP pa_nil) rfl rfl (meth_ht hq1)))) (pw_or1 (pt_cmp (pc_din hu (pe_tup (pa_cons pe_sem (pa_cons pe_sem pa_nil (star_cons (comp_nst c5) _ _)) (star_cons (comp_nst c4) _ _))) nK) rfl)))) pss_never pss_nil) ?_)
    refine ⟨.ref x, rfl, x, dx, _, rfl, ax7.h, rfl, vpath, rfl, ?_⟩
    obtain ⟨oa, Ta, la⟩ := froz o7 T7 hx0 ax7.f ax7.w ax7.h
    have apa : At H7 (upd F7 x (.ins (C.cls "Ground") dx [("own_places", .ref pl)])) ow6 pl (.lst ((gPl PL).map V.str)) := ⟨apl7.h, by rw [upd_ne npl]; exact apl7.f, apl7.w⟩
    obtain ⟨ob, Tb, lb⟩ := froz oa Ta oldpl apa.f apa.w apa.h
    have robj : R C θ6 (upd (upd F7 x (.ins (C.cls "Ground") dx [("own_places", .ref pl)])) pl (.lst ((gPl PL).map V.str))) (.obj "Ground" [("own_places", .lst ((gPl PL).map .str))]) (.ref x) :=
      ⟨x, dx, [("own_places", .ref pl)], rfl, by rw [upd_ne (Ne.symm npl)]; exact upd_same, .ref pl, [], rfl, ⟨pl, _, rfl, upd_same, strs_rs⟩, rfl⟩
    have rpb := R.mono lb (Tle.refl θ6) _ _ (R.mono la (Tle.refl θ6) _ _ rpath)
    have hokP : ∀ p ∈ gPl PL, Sok p := fun p hp => (okg.nm p ((srt_perm _ _).mem_iff.mp hp)).ok
    refine ⟨rfl, θ6, _, ow6, st1, [.obj "Ground" [("own_places", .lst ((gPl PL).map .str))], pd], .fz (.bl true), st1, ob, ⟨.ref x, [vpath], rfl, robj, vpath, [], rfl, rpb, rfl⟩,
      is_pair_eq (k := k + 4) CM (ps := gPl PL) (by unfold HasP; kernel_rfl) hokP e2' ((srt_perm _ _).mem_iff.mpr ha) ((srt_perm _ _).mem_iff.mpr hb) hab, fun v θ8 F8 H8 ow8 t8 o8 r8 => ?_⟩
    cases (show v = .bl true from r8)
    obtain ⟨F8a, t8a, o8a, _⟩ := unfroz apa t8 o8
    obtain ⟨F8b, t8b, o8b, _⟩ := unfroz ax7 t8a o8a
    clear t8 o8 t8a o8a oa ob Ta Tb la lb robj rpb apa r8
    have T8 := T7.trans o7 t8b
    have ax8 := ax7.stp t8b
    have apl8 := apl7.stp t8b
    have akd8 := akd7.stp t8b
    refine ⟨true, rfl, ?_⟩
    have en8 : ZR C θ8 F8b [none, none, none, none, none, none, some (.fz pd), none, none, none, none] [some (.ref x), some vp, some ve, some .non, some (.ref kd), some (.int i), some vpath, none, none, none, none] := .non (.non (.non (.non (.non (.non (.fz (R.mono t8b.leF t8b.th _ _ rpath) (.non (.non (.non (.non .nil))))))))))
    have evn : evI (callF tb pr (k + 6)) [none, none, none, none, none, none, some (.fz pd), none, none, none, none] (.bi .min [.v 6]) st1 = some (.str (norm EL[i]).1, st1) := by
      refine rn_eq ?_
      simp
      exact ⟨_, bi_minP e2', rfl⟩
    have evx : evI (callF tb pr (k + 6)) [none, none, none, none, none, none, some (.fz pd), none, none, none, none] (.bi .max [.v 6]) st1 = some (.str (norm EL[i]).2, st1) := by
      refine rn_eq ?_
      simp
      exact ⟨_, bi_maxP e2', rfl⟩
    refine (S _ _ (ce c4)).E θ8 F8b H8 ow8 st1 _ _ _ st1 _ o8b en8.env evn fun v θ9 F9 H9 ow9 t9 o9 r9 => ?_
    cases (show v = .str (norm EL[i]).1 from r9)
    have en9 := en8.mono t9.leF t9.th
    refine (S _ _ (ce c5)).E θ9 F9 H9 ow9 st1 _ _ _ st1 _ o9 en9.env evx fun v θ10 F10 H10 ow10 t10 o10 r10 => ?_
    cases (show v = .str (norm EL[i]).2 from r10)
    have en10 := en9.mono t10.leF t10.th
    refine ⟨by rw [sizeLine_eq]; show 2 ≤ 16777216; decide, fun p hp => ?_⟩
    have t910 := t9.trans o9 t10
    obtain ⟨o11, t11⟩ := o10.laid (o := .tup [.str (norm EL[i]).1, .str (norm EL[i]).2]) hp
    have t8' := t910.trans o10 t11
    have T11 := T8.trans o8b t8'
    have ax11 := ax8.stp t8'
    have apl11 := apl8.stp t8'
    have akd11 := akd8.stp t8'
    refine ⟨.ref kd, rfl, kd, none, rfl, by rw [← hv]; exact DGet.t akd11.h upd_same, false, rfl, ?_⟩
    have en11 := en10.mono t11.leF t11.th
    show SemB X _ _ _ (upd H10 p (.tup [.str (norm EL[i]).1, .str (norm EL[i]).2]))
    have sx11 : Sx θ4 F4 θ10 F10 := ((sx6.trans t7.sx).trans t8b.sx).trans t8'.sx
    generalize upd H10 p (.tup [.str (norm EL[i]).1, .str (norm EL[i]).2]) = H11 at *
    clear t11 t8' hp o10 t10 t9 t910 o9
    -- known[min(path), max(path)] = True
    refine semb_cons (ss (ps_dput hu nK (pe_tup (pa_cons pe_sem (pa_cons pe_sem pa_nil (star_cons (comp_nst c7) _ _)) (star_cons (comp_nst c6) _ _))) pe_bl rfl) ?_)
    refine ⟨.ref kd, rfl, ?_⟩
    refine (S _ _ (ce c6)).E θ10 F10 H11 ow10 st1 _ _ _ st1 _ o11 en11.env evn fun v θ12 F12 H12 ow12 t12 o12 r12 => ?_
    cases (show v = .str (norm EL[i]).1 from r12)
    have en12 := en11.mono t12.leF t12.th
    refine (S _ _ (ce c7)).E θ12 F12 H12 ow12 st1 _ _ _ st1 _ o12 en12.env evx fun v θ13 F13 H13 ow13 t13 o13 r13 => ?_
    cases (show v = .str (norm EL[i]).2 from r13)
    refine ⟨by rw [sizeLine_eq]; show 2 ≤ 16777216; decide, fun p hp => ?_⟩
    obtain ⟨o14, t14⟩ := o13.laid (o := .tup [.str (norm EL[i]).1, .str (norm EL[i]).2]) hp
    have t11' := (t12.trans o12 t13).trans o13 t14
    have T14 := T11.trans o11 t11'
    have ax14 := ax11.stp t11'
    have apl14 := apl11.stp t11'
    have akd14 := akd11.stp t11'
    refine ⟨kd, _, rfl, DPut.t (k := keyS (norm EL[i])) akd14.h upd_same hkl, ?_⟩
    rw [hk1]
    obtain ⟨o15, T15⟩ := chg (o := .dT (kvs (i + 1))) o14 T14 kd0 akd14.f akd14.ns
    refine semb_nil ?_
    refine ⟨by omega, θ13, F13, ow13, _, _, rfl, T15, o15, ax14.upd nkx.symm, apl14.upd nkp.symm, akd14.same, sx11.trans t11'.sx⟩
end
end Ev
/-! EvGr -/
namespace Gr
variable {α : Type} [DecidableEq α]
def Nr (A : α → α → Prop) (x y : α) : Prop := x = y ∨ A x y
def IsFold (A : α → α → Prop) (S : List α) (p o : α) : Prop := p ∈ S ∧ o ∈ S ∧ p ≠ o ∧ ∀ x ∈ S, Nr A p x → Nr A o x
def less (S : List α) (p : α) : List α := S.filter fun x => decide (x ≠ p)
def Folds (A : α → α → Prop) : List α → List (α × α) → Prop
  | _, [] => True
  | S, (p, o) :: l => IsFold A S p o ∧ Folds A (less S p) l
def restS : List α → List (α × α) → List α
  | S, [] => S
  | S, (p, _) :: l => restS (less S p) l
def shade : List (α × α) → α → α
  | [], x => x
  | (p, o) :: l, x => shade l (if x = p then o else x)
theorem mem_less {S : List α} {p x : α} : x ∈ less S p ↔ x ∈ S ∧ x ≠ p := by simp [less]
theorem Nr.symm {A : α → α → Prop} (sy : ∀ x y, A x y → A y x) {x y : α} (h : Nr A x y) : Nr A y x := h.elim (fun e => .inl e.symm) (fun e => .inr (sy _ _ e))
section
variable {A : α → α → Prop} (sy : ∀ x y, A x y → A y x)
include sy
theorem step_mem {S : List α} {p o x : α} (h : IsFold A S p o) (hx : x ∈ S) : (if x = p then o else x) ∈ less S p := by
  obtain ⟨h1, h2, h3, h4⟩ := h
  rw [mem_less]
  split
  · exact ⟨h2, fun e => h3 e.symm⟩
  · exact ⟨hx, by assumption⟩
omit sy in
theorem step_hom' {S : List α} {p o x y : α} (h : IsFold A S p o) (hx : x ∈ S) (hy : y ∈ S) (n : Nr A y x) : Nr A (if y = p then o else y) x := by
  obtain ⟨h1, h2, h3, h4⟩ := h
  split
  · rename_i e
    exact h4 x hx (e ▸ n)
  · exact n
/-- x near y: x's fold near y's -/
theorem step_hom {S : List α} {p o x y : α} (h : IsFold A S p o) (hx : x ∈ S) (hy : y ∈ S) (n : Nr A x y) : Nr A (if x = p then o else x) (if y = p then o else y) := by
  have a := step_hom' h hx hy (n.symm sy)
  have hy' : (if y = p then o else y) ∈ S := by
    split
    · exact h.2.1
    · exact hy
  exact step_hom' h hy' hx (a.symm sy)
theorem shade_mem {S : List α} {l : List (α × α)} (h : Folds A S l) {x : α} (hx : x ∈ S) : shade l x ∈ restS S l := by
  induction l generalizing S x with
  | nil => exact hx
  | cons q l ih => exact ih h.2 (step_mem sy h.1 hx)
omit sy in
theorem folds_take {S : List α} {l : List (α × α)} (h : Folds A S l) (n : Nat) : Folds A S (l.take n) := by
  induction l generalizing S n with
  | nil => simp [Folds]
  | cons q l ih =>
    cases n with
    | zero => simp [Folds]
    | succ n => exact ⟨h.1, ih h.2 n⟩
theorem shade_hom {S : List α} {l : List (α × α)} (h : Folds A S l) {x y : α} (hx : x ∈ S) (hy : y ∈ S) (n : Nr A x y) : Nr A (shade l x) (shade l y) := by
  induction l generalizing S x y with
  | nil => exact n
  | cons q l ih => exact ih h.2 (step_mem sy h.1 hx) (step_mem sy h.1 hy) (step_hom sy h.1 hx hy n)
/-- the shadow one level down is near -/
theorem shade_close {S : List α} {l : List (α × α)} (h : Folds A S l) {x y : α} (hx : x ∈ S) (hy : y ∈ S) (n : Nr A x y) (k : Nat) : Nr A (shade (l.take (k + 1)) x) (shade (l.take k) y) := by
  induction l generalizing S x y k with
  | nil => simpa [shade] using n
  | cons q l ih =>
    cases k with
    | zero =>
      show Nr A (shade (l.take 0) (if x = q.1 then q.2 else x)) y
      simp only [List.take_zero, shade]
      exact step_hom' h.1 hy hx n
    | succ k => exact ih h.2 (step_mem sy h.1 hx) (step_mem sy h.1 hy) (step_hom sy h.1 hx hy n) k
omit sy in
theorem restS_sub {S : List α} {l : List (α × α)} {x : α} (h : x ∈ restS S l) : x ∈ S := by
  induction l generalizing S with
  | nil => exact h
  | cons q l ih => exact (mem_less.mp (ih h)).1
omit sy in
theorem shade_rest {S : List α} {l : List (α × α)} {x : α} (h : x ∈ restS S l) : shade l x = x := by
  induction l generalizing S with
  | nil => rfl
  | cons q l ih =>
    have hx : x ∈ less S q.1 := restS_sub h
    have : ¬ x = q.1 := (mem_less.mp hx).2
    show shade l (if x = q.1 then q.2 else x) = x
    rw [if_neg this]
    exact ih h
/-- whatever way it is folded: down to one -/
theorem one_rest {S : List α} {l1 l2 : List (α × α)} {c : α} (f1 : Folds A S l1) (h1 : ∀ x ∈ restS S l1, x = c) (f2 : Folds A S l2) (st : ∀ p o, ¬ IsFold A (restS S l2) p o) :
    ∀ x ∈ restS S l2, x = shade l2 c := by
  have key : ∀ k, ∀ y ∈ restS S l2, shade l2 (shade (l1.take k) y) = y := by
    intro k
    induction k with
    | zero => intro y hy; simp only [List.take_zero, shade]; exact shade_rest hy
    | succ k ih =>
      intro y hy
      have hyS := restS_sub hy
      have hz : shade l2 (shade (l1.take (k + 1)) y) ∈ restS S l2 := by
        refine shade_mem sy f2 ?_
        have := shade_mem sy (folds_take f1 (k + 1)) hyS
        exact restS_sub this
      by_cases e : y = shade l2 (shade (l1.take (k + 1)) y)
      · exact e.symm
      · exfalso
        refine st y _ ⟨hy, hz, e, fun x hx n => ?_⟩
        have hxS := restS_sub hx
        have c1 := shade_close sy f1 hyS hxS n k
        have m1 : shade (l1.take (k + 1)) y ∈ S := restS_sub (shade_mem sy (folds_take f1 (k + 1)) hyS)
        have m2 : shade (l1.take k) x ∈ S := restS_sub (shade_mem sy (folds_take f1 k) hxS)
        have c2 := shade_hom sy f2 m1 m2 c1
        rw [ih x hx] at c2
        exact c2
  intro x hx
  have a := key l1.length x hx
  rw [List.take_length] at a
  have b := h1 _ (shade_mem sy f1 (restS_sub hx))
  rw [b] at a
  exact a.symm
end
/-- a path to each -/
inductive Con (A : α → α → Prop) (S : List α) : α → α → Prop
  | here (x : α) : x ∈ S → Con A S x x
  | step {x y z : α} : Con A S x y → A y z → z ∈ S → Con A S x z
end Gr
/-! EvF1 -/
namespace Ev
open PySem PySem.Spec PyProof.Rows L2
/-! ### the law's own ground: places, paths -/
def lgD (S : List Str) (E : List (Str × Str)) : D := .tup [.lst (S.map .str), .lst (E.map pD)]
def Aj (E : List (Str × Str)) (x y : Str) : Prop := (x, y) ∈ E ∨ (y, x) ∈ E
theorem Aj.symm {E : List (Str × Str)} {x y : Str} (h : Aj E x y) : Aj E y x := h.elim .inr .inl
def arl (E : List (Str × Str)) (p : Str) : List Str := srt D.str ((E.filter fun e => decide (p = e.1 ∨ p = e.2)).map fun e => if e.2 = p then e.1 else e.2)
theorem mem_arl {E : List (Str × Str)} (h : ∀ e ∈ E, e.1 ≠ e.2) {p x : Str} : x ∈ arl E p ↔ Aj E p x := by
  unfold arl
  rw [(srt_perm _ _).mem_iff, List.mem_map]
  constructor
  · rintro ⟨⟨a, b⟩, he, rfl⟩
    rw [List.mem_filter] at he
    obtain ⟨he, hp⟩ := he
    have hne := h _ he
    simp only [decide_eq_true_eq] at hp
    simp only at hne ⊢
    by_cases z : b = p
    · rw [if_pos z]; subst z; exact .inr he
    · rw [if_neg z]
      rcases hp with rfl | rfl
      · exact .inl he
      · exact absurd rfl z
  · rintro (he | he)
    · have hne := h _ he
      simp only at hne
      exact ⟨(p, x), List.mem_filter.mpr ⟨he, by simp⟩, by simp only; rw [if_neg (fun z => hne z.symm)]⟩
    · exact ⟨(x, p), List.mem_filter.mpr ⟨he, by simp⟩, by simp⟩
theorem arl_len {E : List (Str × Str)} {p : Str} : (arl E p).length ≤ E.length := by
  unfold arl
  rw [(srt_perm _ _).length_eq, List.length_map]
  exact List.length_filter_le _ _
/-- fine for the law -/
structure Gd (S : List Str) (E : List (Str × Str)) : Prop where
  so : ∀ s ∈ S, Sok s
  pr : ∀ e ∈ E, e.1 ∈ S ∧ e.2 ∈ S ∧ e.1 ≠ e.2
  fs : S.length ≤ 1000
  fe : E.length ≤ 1000
theorem Gd.ep {S : List Str} {E : List (Str × Str)} (h : Gd S E) : ∀ e ∈ E, Pok e := fun e he => ⟨h.so _ (h.pr e he).1, h.so _ (h.pr e he).2.1⟩
theorem Gd.ne {S : List Str} {E : List (Str × Str)} (h : Gd S E) : ∀ e ∈ E, e.1 ≠ e.2 := fun e he => (h.pr e he).2.2
def lessE (E : List (Str × Str)) (p : Str) : List (Str × Str) := E.filter fun e => !decide (p = e.1 ∨ p = e.2)
theorem Gd.less {S : List Str} {E : List (Str × Str)} (h : Gd S E) (p : Str) : Gd (Gr.less S p) (lessE E p) := by
  refine ⟨fun s hs => h.so s (Gr.mem_less.mp hs).1, fun e he => ?_, Nat.le_trans (List.length_filter_le _ _) h.fs, Nat.le_trans (List.length_filter_le _ _) h.fe⟩
  unfold lessE at he
  rw [List.mem_filter] at he
  obtain ⟨he, hp⟩ := he
  simp at hp
  obtain ⟨h1, h2, h3⟩ := h.pr e he
  exact ⟨Gr.mem_less.mpr ⟨h1, fun z => hp.1 z.symm⟩, Gr.mem_less.mpr ⟨h2, fun z => hp.2 z.symm⟩, h3⟩
theorem aj_less {E : List (Str × Str)} {p x y : Str} (hx : x ≠ p) (hy : y ≠ p) : Aj (lessE E p) x y ↔ Aj E x y := by
  unfold Aj lessE
  simp [List.mem_filter]
  constructor
  · rintro (h | h)
    · exact .inl h.1
    · exact .inr h.1
  · rintro (h | h)
    · exact .inl ⟨h, fun z => hx z.symm, fun z => hy z.symm⟩
    · exact .inr ⟨h, fun z => hy z.symm, fun z => hx z.symm⟩
def fldB (E : List (Str × Str)) (p o : Str) : Bool := decide (p ≠ o) && (p :: arl E p).all fun x => decide (x ∈ o :: arl E o)
theorem fldB_iff {S : List Str} {E : List (Str × Str)} (g : Gd S E) {p o : Str} (hp : p ∈ S) (ho : o ∈ S) : fldB E p o = true ↔ Gr.IsFold (Aj E) S p o := by
  unfold fldB Gr.IsFold Gr.Nr
  simp only [Bool.and_eq_true, decide_eq_true_eq, List.all_eq_true, List.mem_cons, mem_arl g.ne]
  have inS : ∀ {x y}, Aj E x y → y ∈ S := fun h => h.elim (fun h => (g.pr _ h).2.1) (fun h => (g.pr _ h).1)
  constructor
  · rintro ⟨h1, h2⟩
    refine ⟨hp, ho, h1, fun x hx n => ?_⟩
    have := h2 x (n.elim (fun e => .inl e.symm) .inr)
    exact this.elim (fun e => .inl e.symm) .inr
  · rintro ⟨_, _, h1, h2⟩
    refine ⟨h1, fun x hx => ?_⟩
    have hxS : x ∈ S := hx.elim (fun e => e ▸ hp) (fun h => inS h)
    have := h2 x hxS (hx.elim (fun e => .inl e.symm) .inr)
    exact this.elim (fun e => .inl e.symm) .inr
def allF (S : List Str) (E : List (Str × Str)) : List (Str × Str) := S.flatMap fun p => (S.filter (fldB E p)).map fun o => (p, o)
theorem mem_allF {S : List Str} {E : List (Str × Str)} (g : Gd S E) {e : Str × Str} : e ∈ allF S E ↔ Gr.IsFold (Aj E) S e.1 e.2 := by
  unfold allF
  rw [List.mem_flatMap]
  constructor
  · rintro ⟨p, hp, he⟩
    obtain ⟨o, ho, rfl⟩ := List.mem_map.mp he
    rw [List.mem_filter] at ho
    exact (fldB_iff g hp ho.1).mp ho.2
  · intro h
    exact ⟨e.1, h.1, List.mem_map.mpr ⟨e.2, List.mem_filter.mpr ⟨h.2.1, (fldB_iff g h.1 h.2.1).mpr h⟩, rfl⟩⟩
theorem pEq_nilL {ds : List D} {ps : List PyData} (h : toPs ds = some ps) (hs : SeqAt.shaped (.list ps) = true) : pEq (.lst ds) (.lst []) = some (decide (ds = [])) := by
  have e1 : toP (.lst ds) = some (.list ps) := by
    show (toPs ds).map PyData.list = _
    rw [h]; rfl
  have e2 : toP (.lst []) = some (.list []) := rfl
  unfold pEq
  simp only [e1, e2]
  rw [hs, show SeqAt.shaped (.list []) = true from by decide +kernel]
  simp only [Bool.and_self, if_true]
  cases ds with
  | nil =>
    cases h
    rfl
  | cons d ds =>
    cases ps with
    | nil =>
      exfalso
      unfold toPs at h
      split at h <;> cases h
    | cons p ps =>
      simp [PyData.eqv, PyData.eqvAll]
theorem pEq_pairs {L : List (Str × Str)} (h : ∀ e ∈ L, Pok e) : pEq (.lst (L.map pD)) (.lst []) = some (decide (L = [])) := by
  rw [pEq_nilL (toPs_map (f := pD) (g := fun p => .tuple [.str p.1, .str p.2]) (fun _ => toP_pD) L)]
  · simp
  · exact shaped_list (fun a ha => by
      simp only [PyData.canLay0, PyData.canLayAll0]
      simp [show PyData.strOk a.1 = true from (h a ha).1, show PyData.strOk a.2 = true from (h a ha).2]) (fun a _ => by simp [PyData.depth, PyData.depthAll])
theorem pEq_strs {L : List Str} (h : ∀ e ∈ L, Sok e) : pEq (.lst (L.map .str)) (.lst []) = some (decide (L = [])) := by
  rw [pEq_nilL (toPs_map (f := D.str) (g := .str) (fun _ => rfl) L)]
  · simp
  · exact shaped_list (fun a ha => by simp only [PyData.canLay0]; exact h a ha) (fun a _ => by simp [PyData.depth])
section
variable {tb : Str × Option Str → Option FnI} {pr : PrimF} {k : Nat} {cs : List Str}
@[simp] theorem atI_0 {α : Type} {a : α} {l : List α} : atI (a :: l) 0 = some a := by
  refine atI_nat' (by decide) ?_
  rfl
@[simp] theorem atI_1 {α : Type} {a b : α} {l : List α} : atI (a :: b :: l) 1 = some b := by
  refine atI_nat' (by decide) ?_
  rfl
theorem pD_0 {st : Sst} {e : Str × Str} : subS st (pD e) (.int 0) = some (.str e.1) := by
  unfold pD
  simp
theorem pD_1 {st : Sst} {e : Str × Str} : subS st (pD e) (.int 1) = some (.str e.2) := by
  unfold pD
  simp
theorem around_eq (C : Com tb pr cs) {S : List Str} {E : List (Str × Str)} (g : Gd S E) {p : Str} (hp : Sok p) {st : Sst} : callF tb pr (k + 1) ("_law_around", none) [lgD S E, .str p] st = some (.ol ((arl E p).map .str), st) := by
  refine rn_eq (rn_fn (C.p _ _) C.law_around rfl ?_)
  simp [flaw_around, us, usB, usL, usLB, frz_eq, ownT, lgD]
  refine lc_pure (fun d => match d with
    | .tup [.str a, .str b] => decide (p = a ∨ p = b)
    | _ => false) (fun d => match d with
    | .tup [.str a, .str b] => .str (if b = p then a else b)
    | _ => .non) (fun x hx => ?_) ?_
  · obtain ⟨⟨a, b⟩, he, rfl⟩ := List.mem_map.mp hx
    have hok := g.ep _ he
    simp
    refine ⟨_, in_pD hp hok, ?_⟩
    have hb := pEq_str hok.2 hp
    simp only at hb
    simp [pD, hb]
    by_cases z : b = p
    · simp [z]
    · simp [z]
      exact fun x y => ⟨x, y⟩
  · have hf : ((E.map pD).filter fun d => match d with
        | .tup [.str a, .str b] => decide (p = a ∨ p = b)
        | _ => false) = (E.filter fun e => decide (p = e.1 ∨ p = e.2)).map pD := by
      rw [List.filter_map]; rfl
    have hm : ((E.filter fun e => decide (p = e.1 ∨ p = e.2)).map pD).map (fun d => match d with
        | .tup [.str a, .str b] => D.str (if b = p then a else b)
        | _ => .non) = ((E.filter fun e => decide (p = e.1 ∨ p = e.2)).map fun e => if e.2 = p then e.1 else e.2).map .str := by
      rw [List.map_map, List.map_map]; rfl
    simp only
    rw [hf, hm]
    have hl : ((E.filter fun e => decide (p = e.1 ∨ p = e.2)).map fun e => if e.2 = p then e.1 else e.2).length ≤ 1000 := by
      rw [List.length_map]; exact Nat.le_trans (List.length_filter_le _ _) g.fe
    rw [List.length_map, sort_strs (by omega)]
    refine ⟨fits_of (by omega), ?_⟩
    simp [arl]
end
end Ev
/-! EvF2 -/
namespace Ev
open PySem PySem.Spec PyProof.Rows L2
theorem lc_of {α : Type} {bd : D → Option Env} {tst : Env → Sst → Option (Bool × Sst)} {el : Env → Sst → Option (D × Sst)} (e : α → D) {l : List α} {st : Sst} {Q : List D × Sst → Prop} (p : α → Bool) (f : α → D)
    (hs : ∀ a ∈ l, Rn (bd (e a)) fun env => Rn (tst env st) fun q => q = (p a, st) ∧ (p a = true → Rn (el env st) fun r => r = (f a, st)))
    (hd : Q ((l.filter p).map f, st)) : Rn (lcGo bd tst el (l.map e) st) Q := by
  have main : ∀ ys : List α, (∀ y ∈ ys, y ∈ l) → lcGo bd tst el (ys.map e) st = some ((ys.filter p).map f, st) := by
    intro ys
    induction ys with
    | nil => intro _; rfl
    | cons y ys ih =>
      intro hy
      obtain ⟨env, e1, q, e2, rfl, q3⟩ := hs y (hy y (by simp))
      have ih := ih fun z hz => hy z (by simp [hz])
      rw [List.map_cons]
      unfold lcGo
      rw [e1]
      simp only
      rw [e2]
      cases hp : p y with
      | false => simp only [List.filter_cons, hp]; rw [ih]; simp
      | true =>
        obtain ⟨r, e3, rfl⟩ := q3 hp
        simp only [List.filter_cons, hp, if_true]
        rw [e3]
        simp only
        rw [ih]
        simp
  exact ⟨_, main l fun _ h => h, hd⟩
theorem lc_ofm {α : Type} {bd : D → Option Env} {tst : Env → Sst → Option (Bool × Sst)} {el : Env → Sst → Option (D × Sst)} (e : α → D) {l : List α} {st : Sst} {Q : List D × Sst → Prop} (f : α → D)
    (hs : ∀ a ∈ l, Rn (bd (e a)) fun env => Rn (tst env st) fun q => q = (true, st) ∧ Rn (el env st) fun r => r = (f a, st))
    (hd : Q (l.map f, st)) : Rn (lcGo bd tst el (l.map e) st) Q :=
  lc_of e (fun _ => true) f (fun x hx => (hs x hx).mono fun env h => h.mono fun q h => ⟨h.1, fun _ => h.2⟩) (by rw [List.filter_eq_self.mpr fun _ _ => rfl]; exact hd)
section
variable {tb : Str × Option Str → Option FnI} {pr : PrimF} {k : Nat} {cs : List Str}
theorem arl_sub {S : List Str} {E : List (Str × Str)} (g : Gd S E) {p x : Str} (h : x ∈ arl E p) : x ∈ S := by
  rcases (mem_arl g.ne).mp h with h | h
  · exact (g.pr _ h).2.1
  · exact (g.pr _ h).1
theorem folds_eq (F : Flds tb pr cs) {S : List Str} {E : List (Str × Str)} (g : Gd S E) {p o : Str} (hp : p ∈ S) (ho : o ∈ S) {st : Sst} : callF tb pr (k + 2) ("_law_folds", none) [lgD S E, .str p, .str o] st = some (.fz (.bl (fldB E p o)), st) := by
  have sp := g.so _ hp
  have so := g.so _ ho
  have ap : ∀ x ∈ p :: arl E p, Sok x := fun x hx => by
    rcases List.mem_cons.mp hx with rfl | hx
    · exact sp
    · exact g.so _ (arl_sub g hx)
  have ao : ∀ x ∈ o :: arl E o, Sok x := fun x hx => by
    rcases List.mem_cons.mp hx with rfl | hx
    · exact so
    · exact g.so _ (arl_sub g hx)
  have la := @arl_len E p
  have lo := @arl_len E o
  have gf := g.fe
  refine rn_eq (rn_fn (F.p _ _) F.law_folds rfl ?_)
  simp [flaw_folds, us, usL, usB, usLB, usS, frz_eq, ownT]
  refine ⟨fits_of (by decide), _, around_eq F.toCom g so, ?_⟩
  simp
  rw [rn_if]
  refine ⟨fits_of (by omega), ?_⟩
  rw [show (D.str o :: (arl E o).map D.str) = (o :: arl E o).map D.str from rfl]
  generalize hA : o :: arl E o = A at *
  simp [flaw_folds, us, usL, usB, usLB, usS, frz_eq, ownT, pEq_str sp so]
  refine ⟨fun hpo => ?_, fun hpo => ?_⟩
  · refine ⟨fits_of (by decide), _, around_eq F.toCom g sp, ?_⟩
    simp
    rw [rn_if]
    refine ⟨fits_of (by omega), ?_⟩
    rw [show (D.str p :: (arl E p).map D.str) = (p :: arl E p).map D.str from rfl]
    generalize hB : p :: arl E p = B at *
    simp
    refine lc_ofm D.str (fun x => .bl (decide (x ∈ A))) (fun x hx => ?_) ?_
    · simp [in_strs (ap x hx) ao]
    · have lB : B.length ≤ 16777216 := by rw [← hB, List.length_cons]; omega
      simp only [List.length_map, rn_bools]
      refine ⟨fits_of lB, ?_, trivial⟩
      unfold fldB
      rw [hA, hB]
      simp [hpo]
  · subst hpo
    simp [fldB]
theorem less_eq (F : Flds tb pr cs) {S : List Str} {E : List (Str × Str)} (g : Gd S E) {p : Str} (hp : p ∈ S) {st : Sst} : callF tb pr (k + 1) ("_law_less", none) [lgD S E, .str p] st = some (.fz (lgD (Gr.less S p) (lessE E p)), st) := by
  have sp := g.so _ hp
  refine rn_eq (rn_fn (F.p _ _) F.law_less rfl ?_)
  simp [flaw_less, us, usL, usB, usLB, usS, frz_eq, ownT, lgD]
  refine lc_of D.str (fun x => decide (x ≠ p)) D.str (fun x hx => ?_) ?_
  · simp [pEq_str (g.so _ hx) sp]
  · have l1 := List.length_filter_le (fun x => decide (x ≠ p)) S
    have gs := g.fs
    simp
    refine ⟨fits_of (by simp at l1; omega), lc_of pD (fun e => !decide (p = e.1 ∨ p = e.2)) pD (fun x hx => ?_) ?_⟩
    · simp [in_pD sp (g.ep _ hx)]
      exact fun h h1 => h.elim (fun h => absurd h h1) id
    · have l2 := List.length_filter_le (fun e => !decide (p = e.1 ∨ p = e.2)) E
      have ge := g.fe
      refine ⟨fits_of (by rw [List.length_map]; omega), fits_of (by decide), ?_⟩
      simp [Gr.less, lessE]
@[simp] theorem lgD_0 {st : Sst} {S : List Str} {E : List (Str × Str)} : subS st (lgD S E) (.int 0) = some (.lst (S.map .str)) := by
  unfold lgD; simp
@[simp] theorem lgD_1 {st : Sst} {S : List Str} {E : List (Str × Str)} : subS st (lgD S E) (.int 1) = some (.lst (E.map pD)) := by
  unfold lgD; simp
def onF (S : List Str) (E : List (Str × Str)) (p : Str) : List (Str × Str) := (S.filter (fldB E p)).map fun o => (p, o)
theorem allF_eq {S : List Str} {E : List (Str × Str)} : allF S E = S.flatMap (onF S E) := rfl
theorem flat_len {α β : Type} {f : α → List β} {n : Nat} : ∀ {l : List α}, (∀ a ∈ l, (f a).length ≤ n) → (l.flatMap f).length ≤ l.length * n
  | [], _ => by simp
  | a :: l, h => by
    have ih := flat_len (f := f) (n := n) (l := l) (fun x hx => h x (by simp [hx]))
    have h0 := h a (by simp)
    rw [List.flatMap_cons, List.length_append, List.length_cons, Nat.succ_mul]
    omega
theorem onF_len {S : List Str} {E : List (Str × Str)} {p : Str} : (onF S E p).length ≤ S.length := by
  unfold onF
  rw [List.length_map]
  exact List.length_filter_le _ _
theorem allF_take_len {S : List Str} {E : List (Str × Str)} (g : Gd S E) (i : Nat) : ((S.take i).flatMap (onF S E)).length ≤ 1000000 := by
  have h := flat_len (f := onF S E) (n := S.length) (l := S.take i) (fun _ _ => onF_len)
  have l : (S.take i).length ≤ S.length := by simp; omega
  have gs := g.fs
  have m := Nat.mul_le_mul (Nat.le_trans l gs) gs
  omega
theorem take_flat {α β : Type} {f : α → List β} {l : List α} {i : Nat} {x : α} (h : l[i]? = some x) : (l.take (i + 1)).flatMap f = (l.take i).flatMap f ++ f x := by
  rw [List.take_add_one, h]
  simp [List.flatMap_append]
theorem get_map {α β : Type} {f : α → β} {l : List α} {i : Nat} {y : β} (h : (l.map f)[i]? = some y) : ∃ x, l[i]? = some x ∧ y = f x := by
  rw [List.getElem?_map] at h
  obtain ⟨x, hx, rfl⟩ := Option.map_eq_some_iff.mp h
  exact ⟨x, hx, rfl⟩
theorem all_folds_eq (F : Flds tb pr cs) {S : List Str} {E : List (Str × Str)} (g : Gd S E) {st : Sst} : callF tb pr (k + 3) ("_law_all_folds", none) [lgD S E] st = some (.ol ((allF S E).map pD), st) := by
  refine rn_eq (rn_fn (F.p _ _) F.law_all_folds rfl ?_)
  simp [flaw_all_folds, us, usL, usB, usLB, usS, frz_eq, ownT]
  refine ⟨fits_of (by decide), for_inv (fun i env st' => st' = st ∧ ∃ v, env = [some (.fz (lgD S E)), some (.ol (((S.take i).flatMap (onF S E)).map pD)), v, none]) ⟨rfl, none, rfl⟩ (fun i x env st' hx hI => ?_) (fun env st' hI => ?_)⟩
  · obtain ⟨rfl, v, rfl⟩ := hI
    obtain ⟨p, hx', rfl⟩ := get_map hx
    have hp : p ∈ S := List.mem_of_getElem? hx'
    simp [us, usL, usB, usLB, usS, frz_eq, ownT]
    refine lc_of D.str (fldB E p) (fun o => pD (p, o)) (fun o ho => ?_) ?_
    · simp
      refine ⟨_, folds_eq F g hp ho, ?_⟩
      simp [pD]
      exact ⟨fun h => ⟨h, fun _ => fits_of (by decide)⟩, fun h => ⟨h, fun h' => by simp [h] at h'⟩⟩
    · have h1 := @onF_len S E p
      have h2 := allF_take_len g i
      have h3 := allF_take_len g (i + 1)
      have gs := g.fs
      rw [take_flat hx']
      rw [take_flat hx'] at h3
      unfold onF at h1 h3 ⊢
      simp at h1 h3 ⊢
      exact ⟨fits_of (by omega), fits_of (by omega)⟩
  · obtain ⟨rfl, v, rfl⟩ := hI
    simp [allF_eq]
end
end Ev
/-! EvF3 -/
namespace Ev
open PySem PySem.Spec PyProof.Rows L2
@[simp] theorem bindT_l {ts : List Tg} {ds : List D} {env : Env} : bindT (.t ts) (.lst ds) env = if ds.length = ts.length then bindTs ts ds env else none := by unfold bindT; rfl
theorem cutG_take {α : Type} {xs : List α} {n : Nat} : cutG xs none (some (n : Int)) = xs.take n := by
  unfold cutG
  simp only [HT.sIx_none, HT.sIx_nat]
  rw [List.drop_zero, Nat.sub_zero, List.take_eq_take_iff]
  omega
theorem cutD_lst {xs : List D} {n : Nat} : cutD (.lst xs) none (some (n : Int)) = some (.lst (xs.take n)) := by
  show some (D.lst (cutG _ _ _)) = _
  rw [cutG_take]
theorem cutD_tup {xs : List D} {n : Nat} : cutD (.tup xs) none (some (n : Int)) = some (.tup (xs.take n)) := by
  show some (D.tup (cutG _ _ _)) = _
  rw [cutG_take]
theorem All2.get {α β : Type} {R : α → β → Prop} {as : List α} {bs : List β} (h : All2 R as bs) : ∀ {i : Nat} {a : α}, as[i]? = some a → ∃ b, bs[i]? = some b ∧ R a b := by
  induction h with
  | nil => intro i a ha; simp at ha
  | cons r t ih =>
    intro i a ha
    cases i with
    | zero => simp at ha; subst ha; exact ⟨_, rfl, r⟩
    | succ i => simp at ha; simpa using ih ha
theorem All2.take {α β : Type} {R : α → β → Prop} {as : List α} {bs : List β} (h : All2 R as bs) : ∀ n, All2 R (as.take n) (bs.take n) := by
  induction h with
  | nil => intro n; simp; exact .nil
  | cons r t ih =>
    intro n
    cases n with
    | zero => simp; exact .nil
    | succ n => exact .cons r (ih n)
theorem All2.ofMap {α β : Type} {R : α → β → Prop} {f : β → α} : ∀ {bs : List β}, (∀ b ∈ bs, R (f b) b) → All2 R (bs.map f) bs
  | [], _ => .nil
  | b :: bs, h => .cons (h b (by simp)) (All2.ofMap fun x hx => h x (by simp [hx]))
def SqP (d : D) (p : Str × Str) : Prop := Sq d [.str p.1, .str p.2]
theorem SqP.pD {p : Str × Str} : SqP (pD p) p := .inr rfl
/-- folds, in any form -/
def PL (d : D) (l : List (Str × Str)) : Prop := ∃ ds, Sq d ds ∧ All2 SqP ds l
theorem PL.lst {l : List (Str × Str)} : PL (.lst (l.map Ev.pD)) l := ⟨_, .inl rfl, All2.ofMap fun _ _ => SqP.pD⟩
theorem shade_snoc : ∀ {l : List (Str × Str)} {i : Nat} {e : Str × Str} {x : Str}, l[i]? = some e → Gr.shade (l.take (i + 1)) x = if Gr.shade (l.take i) x = e.1 then e.2 else Gr.shade (l.take i) x
  | [], i, e, x, h => by simp at h
  | q :: l, 0, e, x, h => by simp at h; subst h; simp [Gr.shade]
  | q :: l, i + 1, e, x, h => by
    exact shade_snoc (l := l) (i := i) (e := e) (x := if x = q.1 then q.2 else x) (by simpa using h)
section
variable {tb : Str × Option Str → Option FnI} {pr : PrimF} {k : Nat} {cs : List Str}
theorem shade_ok {l : List (Str × Str)} (hl : ∀ e ∈ l, Pok e) {x : Str} (hx : Sok x) : Sok (Gr.shade l x) := by
  induction l generalizing x with
  | nil => exact hx
  | cons q l ih =>
    refine ih (fun e he => hl e (by simp [he])) ?_
    split
    · exact (hl q (by simp)).2
    · exact hx
theorem law_shadow_eq (F : Flds tb pr cs) {l : List (Str × Str)} (hl : ∀ e ∈ l, Pok e) {n : Nat} {x : Str} (hx : Sok x) {st : Sst} : callF tb pr (k + 1) ("_law_shadow", none) [.lst (l.map pD), .int n, .str x] st = some (.fz (.str (Gr.shade (l.take n) x)), st) := by
  refine rn_eq (rn_fn (F.p _ _) F.law_shadow rfl ?_)
  simp [flaw_shadow, us, usL, usB, usLB, usS, usO, frz_eq, ownT, cutD_lst]
  rw [List.map_take.symm]
  have hl' : ∀ e ∈ l.take n, Pok e := fun e he => hl e (List.mem_of_mem_take he)
  generalize hl2 : D.lst (l.map pD) = dl
  generalize l.take n = l' at *
  refine for_inv (fun i env st' => st' = st ∧ ∃ v3 v4, env = [some (.fz dl), some (.fz (.int n)), some (.fz (.str (Gr.shade (l'.take i) x))), v3, v4]) ⟨rfl, none, none, rfl⟩ (fun i d env st' hd hI => ?_) (fun env st' hI => ?_)
  · obtain ⟨rfl, v3, v4, rfl⟩ := hI
    obtain ⟨e, he, rfl⟩ := get_map hd
    have hm := hl' e (List.mem_of_getElem? he)
    have hs := shade_ok (l := l'.take i) (fun e he => hl' e (List.mem_of_mem_take he)) hx
    rw [shade_snoc he]
    generalize Gr.shade (l'.take i) x = y at *
    have hq := pEq_str hs hm.1
    simp [pD, us, usL, usB, usLB, usS, frz_eq, ownT, hq]
    exact ⟨fun h h' => absurd h h', fun h h' => absurd h' h⟩
  · obtain ⟨rfl, v3, v4, rfl⟩ := hI
    simp
theorem shade_eq (F : Flds tb pr cs) {d : D} {l : List (Str × Str)} (hd : PL d l) (hl : ∀ e ∈ l, Pok e) {n : Nat} {x : Str} (hx : Sok x) {st : Sst} : callF tb pr (k + 1) ("shade", none) [d, .int n, .str x] st = some (.fz (.str (Gr.shade (l.take n) x)), st) := by
  obtain ⟨ds, hd, ha⟩ := hd
  refine rn_eq (rn_fn (F.p _ _) F.shade rfl ?_)
  have hcut : Rn (cutD d none (some (n : Int))) fun z => itD .of [z] = some (ds.take n) := by
    rcases hd with rfl | rfl
    · rw [cutD_lst]; simp
    · rw [cutD_tup]; simp
  obtain ⟨z, hz, hz2⟩ := hcut
  simp [f_shade, us, usL, usB, usLB, usS, usO, frz_eq, ownT]
  refine ⟨z, hz, _, hz2, ?_⟩
  have hl' : ∀ e ∈ l.take n, Pok e := fun e he => hl e (List.mem_of_mem_take he)
  replace ha := ha.take n
  generalize l.take n = l' at *
  generalize ds.take n = ds' at *
  refine for_inv (fun i env st' => st' = st ∧ ∃ v3 v4, env = [some (.fz d), some (.fz (.int n)), some (.fz (.str (Gr.shade (l'.take i) x))), v3, v4]) ⟨rfl, none, none, rfl⟩ (fun i d env st' hd hI => ?_) (fun env st' hI => ?_)
  · obtain ⟨rfl, v3, v4, rfl⟩ := hI
    obtain ⟨e, he, hde⟩ := ha.get hd
    have hm := hl' e (List.mem_of_getElem? he)
    have hs := shade_ok (l := l'.take i) (fun e he => hl' e (List.mem_of_mem_take he)) hx
    rw [shade_snoc he]
    generalize Gr.shade (l'.take i) x = y at *
    have hq := pEq_str hs hm.1
    rcases hde with rfl | rfl
    · simp [us, usL, usB, usLB, usS, frz_eq, ownT, hq]
      by_cases h : y = e.1 <;> simp [h]
    · simp [us, usL, usB, usLB, usS, frz_eq, ownT, hq]
      by_cases h : y = e.1 <;> simp [h]
  · obtain ⟨rfl, v3, v4, rfl⟩ := hI
    simp [← ha.length]
    have : List.take ds'.length l' = l' := by rw [ha.length, List.take_length]
    rw [this]
end
end Ev
/-! EvF4 -/
namespace Gr
variable {α : Type} [DecidableEq α] {A A' : α → α → Prop}
theorem folds_snoc {S : List α} {l : List (α × α)} {p o : α} (h : Folds A S l) (f : IsFold A (restS S l) p o) : Folds A S (l ++ [(p, o)]) := by
  induction l generalizing S with
  | nil => exact ⟨f, trivial⟩
  | cons q l ih => exact ⟨h.1, ih h.2 f⟩
theorem restS_snoc {S : List α} {l : List (α × α)} {p o : α} : restS S (l ++ [(p, o)]) = less (restS S l) p := by
  induction l generalizing S with
  | nil => rfl
  | cons q l ih => exact ih
theorem isFold_congr {S : List α} (h : ∀ x ∈ S, ∀ y ∈ S, A x y ↔ A' x y) {p o : α} : IsFold A S p o ↔ IsFold A' S p o := by
  unfold IsFold
  constructor
  · rintro ⟨h1, h2, h3, h4⟩
    refine ⟨h1, h2, h3, fun x hx n => ?_⟩
    have := h4 x hx (n.elim .inl fun a => .inr ((h _ h1 _ hx).mpr a))
    exact this.elim .inl fun a => .inr ((h _ h2 _ hx).mp a)
  · rintro ⟨h1, h2, h3, h4⟩
    refine ⟨h1, h2, h3, fun x hx n => ?_⟩
    have := h4 x hx (n.elim .inl fun a => .inr ((h _ h1 _ hx).mp a))
    exact this.elim .inl fun a => .inr ((h _ h2 _ hx).mpr a)
theorem less_lt {S : List α} {p : α} (h : p ∈ S) : (less S p).length < S.length := by
  unfold less
  rw [List.length_filter_lt_length_iff_exists]
  exact ⟨p, h, by simp⟩
theorem folds_len {S : List α} {l : List (α × α)} (h : Folds A S l) : l.length + (restS S l).length ≤ S.length := by
  induction l generalizing S with
  | nil => simp [restS]
  | cons q l ih =>
    have := ih h.2
    have := less_lt h.1.1
    show l.length + 1 + (restS (less S q.1) l).length ≤ _
    omega
theorem less_len {S : List α} {p : α} (hn : S.Nodup) (h : p ∈ S) : (less S p).length + 1 = S.length := by
  have e : less S p = S.erase p := by
    unfold less
    rw [hn.erase_eq_filter]
    congr 1
    funext x
    by_cases z : x = p <;> simp [z]
  rw [e, List.length_erase_of_mem h]
  have := List.length_pos_of_mem h
  omega
theorem folds_lenE {S : List α} {l : List (α × α)} (hn : S.Nodup) (h : Folds A S l) : l.length + (restS S l).length = S.length := by
  induction l generalizing S with
  | nil => simp [restS]
  | cons q l ih =>
    have : l.length + (restS (less S q.1) l).length = (less S q.1).length := ih (hn.filter _) h.2
    have := less_len hn h.1.1
    show l.length + 1 + (restS (less S q.1) l).length = _
    omega
theorem folds_in {S : List α} {l : List (α × α)} (h : Folds A S l) : ∀ e ∈ l, e.1 ∈ S ∧ e.2 ∈ S := by
  induction l generalizing S with
  | nil => simp
  | cons q l ih =>
    intro e he
    rcases List.mem_cons.mp he with rfl | he
    · exact ⟨h.1.1, h.1.2.1⟩
    · have := ih h.2 e he
      exact ⟨(mem_less.mp this.1).1, (mem_less.mp this.2).1⟩
theorem restS_nodup {S : List α} {l : List (α × α)} (hn : S.Nodup) : (restS S l).Nodup := by
  induction l generalizing S with
  | nil => exact hn
  | cons q l ih => exact ih (hn.filter _)
end Gr
namespace Ev
open PySem PySem.Spec PyProof.Rows L2
theorem atI_last {α : Type} {l : List α} {a : α} : atI (l ++ [a]) (-1) = some a := by
  unfold atI ixN
  simp
  rw [if_pos (by omega)]
  simp only [Option.bind_some]
  rw [show (-1 + ((l.length : Int) + 1)).toNat = l.length from by omega]
  simp
section
variable {tb : Str × Option Str → Option FnI} {pr : PrimF} {k : Nat} {cs : List Str}
theorem allF_len {S : List Str} {E : List (Str × Str)} (g : Gd S E) : (allF S E).length ≤ 1000000 := by
  have := allF_take_len g S.length
  rw [List.take_length] at this
  exact this
theorem allF_ok {S : List Str} {E : List (Str × Str)} (g : Gd S E) : ∀ e ∈ allF S E, Pok e := fun e he => by
  have := (mem_allF g).mp he
  exact ⟨g.so _ this.1, g.so _ this.2.1⟩
theorem down_rn (F : Flds tb pr cs) {S : List Str} {E : List (Str × Str)} (g : Gd S E) {n : Int} {st : Sst} (h : Ok n st) (hn : n + S.length < 2 ^ 40) {P : T × Sst → Prop}
    (q : ∀ l E' st', Gr.Folds (Aj E) S l → (∀ p o, ¬ Gr.IsFold (Aj E) (Gr.restS S l) p o) → Ok (n + S.length) st' → P (.fz (.tup [.lst (l.map pD), lgD (Gr.restS S l) E']), st')) :
    Rn (callF tb pr (k + 4) ("_law_down", none) [.tok 0, lgD S E] st) P := by
  refine rn_fn (F.p _ _) F.law_down rfl ?_
  simp [flaw_down, us, usL, usB, usLB, usS, frz_eq, ownT]
  refine ⟨fits_of (by decide), _, all_folds_eq F g, ?_⟩
  simp
  refine whl_inv (fun m env st' => ∃ l S' E', m = S'.length ∧ S'.length ≤ S.length ∧ env = [some (.fz (.tok 0)), some (.fz (lgD S' E')), some (.ol (l.map pD)), some (.ol ((allF S' E').map pD))] ∧ Gd S' E' ∧ S' = Gr.restS S l ∧ Gr.Folds (Aj E) S l ∧ (∀ x ∈ S', ∀ y ∈ S', Aj E' x y ↔ Aj E x y) ∧ Ok (n + (S.length - S'.length : Nat)) st') (n := S.length) ⟨[], S, E, rfl, Nat.le_refl _, rfl, g, rfl, trivial, fun _ _ _ _ => Iff.rfl, h.mono (by omega)⟩ ?_
  rintro m env st' ⟨l, S', E', rfl, hle, rfl, g', rfl, hf, hA, h'⟩
  simp [us, usL, usB, usLB, usS, frz_eq, ownT]
  refine ⟨fits_of (by decide), ?_⟩
  simp [pEq_pairs (allF_ok g')]
  refine ⟨fun hne => ?_, fun he => ?_⟩
  · have hl := allF_len g'
    refine pick_rn F.toCom h' (by omega) (by simpa using hne) (by rw [List.length_map]; omega) fun d st'' hd h'' => ?_
    obtain ⟨⟨p, o⟩, he, rfl⟩ := List.mem_map.mp hd
    have hfo := (mem_allF g').mp he
    simp only at hfo
    have hlen := Gr.folds_len hf
    have gs := g.fs
    have hlt := Gr.less_lt hfo.1
    refine ⟨fits_of (by omega), _, atI_last, _, pD_0, _, less_eq F g' hfo.1, _, all_folds_eq F (g'.less p), (Gr.less (Gr.restS S l) p).length, hlt, l ++ [(p, o)], Gr.less (Gr.restS S l) p, rfl, by omega, lessE E' p, ⟨rfl, by simp, rfl⟩, g'.less p, Gr.restS_snoc.symm, Gr.folds_snoc hf ((Gr.isFold_congr hA).mp hfo), fun x hx y hy => ?_, h''.mono (by omega)⟩
    have hx := Gr.mem_less.mp hx
    have hy := Gr.mem_less.mp hy
    rw [aj_less hx.2 hy.2]
    exact hA x hx.1 y hy.1
  · refine ⟨fits_of (by decide), q l E' st' hf (fun p o hfo => ?_) (h'.mono (by omega))⟩
    have := (mem_allF (e := (p, o)) g').mpr ((Gr.isFold_congr hA).mpr hfo)
    rw [he] at this
    cases this
end
end Ev
/-! EvF5 -/
namespace Ev
open PySem PySem.Spec PyProof.Rows L2
theorem ltS_tri {a b : Str} (h : a ≠ b) : (ltS a b = true ∧ ltS b a = false) ∨ (ltS a b = false ∧ ltS b a = true) := by
  unfold ltS
  by_cases h1 : a.cps.toList < b.cps.toList
  · have h2 : ¬ b.cps.toList < a.cps.toList := List.lt_asymm h1
    simp [h1, h2]
  · by_cases h2 : b.cps.toList < a.cps.toList
    · simp [h1, h2]
    · exact absurd (str_ext' (List.le_antisymm (List.not_lt.mp h2) (List.not_lt.mp h1))) h
theorem norm_swap {a b : Str} (h : a ≠ b) : norm (b, a) = norm (a, b) := by
  unfold norm
  rcases ltS_tri h with ⟨h1, h2⟩ | ⟨h1, h2⟩ <;> simp [h1, h2]
theorem norm_norm {e : Str × Str} (h : e.1 ≠ e.2) : norm (norm e) = norm e := by
  rcases norm_or e h with z | z
  · rw [z, z]
  · have := norm_swap h
    rw [z, this]
    exact z
theorem gPl_mem {P : List Str} {x : Str} : x ∈ gPl P ↔ x ∈ P := (srt_perm _ _).mem_iff
theorem gPa_aj {P : List Str} {E : List (Str × Str)} (h : OkG P E) {x y : Str} : Aj (gPa E) x y ↔ Aj E x y := by
  have hm : ∀ e, e ∈ gPa E ↔ e ∈ E.map norm := fun e => (List.mergeSort_perm _ _).mem_iff
  unfold Aj
  rw [hm, hm]
  constructor
  · intro z
    have key : ∀ a b, (a, b) ∈ E.map norm → (a, b) ∈ E ∨ (b, a) ∈ E := fun a b z => by
      obtain ⟨e, he, z⟩ := List.mem_map.mp z
      rcases norm_or e (h.pr e he).2.2 with y | y
      · rw [y] at z; subst z; exact .inl he
      · rw [y] at z; cases z; exact .inr he
    exact z.elim (key _ _) fun z => (key _ _ z).symm
  · intro z
    have key : ∀ a b, (a, b) ∈ E → (a, b) ∈ E.map norm ∨ (b, a) ∈ E.map norm := fun a b z => by
      have m := List.mem_map_of_mem (f := norm) z
      rcases norm_or (a, b) (h.pr _ z).2.2 with y | y
      · rw [y] at m; exact .inl m
      · rw [y] at m; exact .inr m
    exact z.elim (key _ _) fun z => (key _ _ z).symm
theorem mem_arnd {L : List (Str × Str)} (h : ∀ e ∈ L, e.1 ≠ e.2) {p x : Str} : x ∈ arnd L p ↔ Aj L p x := by
  unfold arnd Aj
  rw [List.mem_filterMap]
  constructor
  · rintro ⟨⟨a, b⟩, he, z⟩
    simp only at z
    split at z
    · rename_i c; cases z; exact .inl (c ▸ he)
    · split at z
      · rename_i c; cases z; exact .inr (c ▸ he)
      · cases z
  · rintro (he | he)
    · exact ⟨_, he, by simp⟩
    · refine ⟨_, he, ?_⟩
      have := h _ he
      simp only at this ⊢
      simp [this]
theorem lookup_pairs {α : Type} {f : Str → α} {x : Str} : ∀ {L : List Str}, x ∈ L → (L.map fun p => (p, f p)).lookup x = some (f x)
  | [], h => by cases h
  | y :: L, h => by
    rw [List.map_cons, List.lookup_cons]
    by_cases z : x = y
    · subst z; simp
    · have : (x == y) = false := by simpa using z
      rw [this]
      exact lookup_pairs ((List.mem_cons.mp h).resolve_left z)
/-- what is around, on the package's side -/
def arG (E : List (Str × Str)) (p : Str) : List Str := srt D.str (arnd (gPa E) p)
theorem arG_mem {P : List Str} {E : List (Str × Str)} (h : OkG P E) {p x : Str} : x ∈ arG E p ↔ Aj E p x := by
  unfold arG
  rw [(srt_perm _ _).mem_iff, mem_arnd (fun e he => (gPa_mem h he).2.2), gPa_aj h]
theorem arG_len {P : List Str} {E : List (Str × Str)} {p : Str} : (arG E p).length ≤ E.length := by
  unfold arG
  rw [(srt_perm _ _).length_eq]
  refine Nat.le_trans (arnd_len _ _) ?_
  unfold gPa srtS
  rw [List.length_mergeSort, List.length_map]
  exact Nat.le_refl _
theorem gAr_at {P : List Str} {E : List (Str × Str)} {p : Str} (hp : p ∈ P) : (gAr P E).lookup p = some (.lst ((arG E p).map .str)) := lookup_pairs (f := fun p => D.lst ((srt D.str (arnd (gPa E) p)).map .str)) (gPl_mem.mpr hp)
/-- the package's ground: places and neighbours as wanted -/
structure Mg (g : D) (S : List Str) (A : Str → Str → Prop) (P : List Str) (E : List (Str × Str)) : Prop where
  e : g = groundD P E
  ok : OkG P E
  ps : ∀ x, x ∈ P ↔ x ∈ S
  aj : ∀ x ∈ S, ∀ y ∈ S, Aj E x y ↔ A x y
  l1 : P.length ≤ 1000
  l2 : E.length ≤ 1000
section
variable {tb : Str × Option Str → Option FnI} {pr : PrimF} {k : Nat} {cs : List Str}
theorem Mg.hasP {g : D} {S P : List Str} {A : Str → Str → Prop} {E : List (Str × Str)} (m : Mg g S A P E) : HasP g (gPl P) := by
  rw [m.e]
  exact obG_places
theorem Mg.so {g : D} {S P : List Str} {A : Str → Str → Prop} {E : List (Str × Str)} (m : Mg g S A P E) : ∀ p ∈ gPl P, Sok p := fun p hp => (m.ok.nm p (gPl_mem.mp hp)).ok
theorem Mg.sS {g : D} {S P : List Str} {A : Str → Str → Prop} {E : List (Str × Str)} (m : Mg g S A P E) {p : Str} (hp : p ∈ S) : Sok p := m.so p (gPl_mem.mpr ((m.ps p).mpr hp))
theorem holds_eq (F : Flds tb pr cs) {g : D} {S P : List Str} {A : Str → Str → Prop} {E : List (Str × Str)} (m : Mg g S A P E) {o : Str} (ho : o ∈ S) {st : Sst} : callF tb pr (k + 1) ("holds", none) [g, .str o] st = some (.ol ((o :: arG E o).map .str), st) := by
  have hf : fldD g "own_around" ["Ground"] = some (.dct ((gAr P E).map kD)) := by rw [m.e]; exact obG_around
  refine rn_eq (rn_fn (F.p _ _) F.holds rfl ?_)
  simp [f_holds, us, usL, usB, usLB, usS, usO, frz_eq, ownT]
  refine ⟨_, hf, ?_⟩
  simp [gAr_at ((m.ps o).mpr ho)]
  have h1 := arG_len (P := P) (E := E) (p := o)
  have h2 := m.l2
  refine ⟨(arG E o).map .str, rfl, ?_⟩
  refine ⟨fits_of ?_, rfl⟩
  rw [List.length_map]
  omega
def fldG (E : List (Str × Str)) (p o : Str) : Bool := decide (p ≠ o) && (p :: arG E p).all fun x => decide (x ∈ o :: arG E o)
theorem Mg.sub {g : D} {S P : List Str} {A : Str → Str → Prop} {E : List (Str × Str)} (m : Mg g S A P E) {p x : Str} (h : Aj E p x) : x ∈ S := by
  rcases h with h | h
  · exact (m.ps x).mp (m.ok.pr _ h).2.1
  · exact (m.ps x).mp (m.ok.pr _ h).1
theorem fldG_iff {g : D} {S P : List Str} {A : Str → Str → Prop} {E : List (Str × Str)} (m : Mg g S A P E) {p o : Str} (hp : p ∈ S) (ho : o ∈ S) : fldG E p o = true ↔ Gr.IsFold A S p o := by
  unfold fldG Gr.IsFold Gr.Nr
  simp only [Bool.and_eq_true, decide_eq_true_eq, List.all_eq_true, List.mem_cons, arG_mem m.ok]
  constructor
  · rintro ⟨h1, h2⟩
    refine ⟨hp, ho, h1, fun x hx n => ?_⟩
    have := h2 x (n.elim (fun e => .inl e.symm) fun a => .inr ((m.aj p hp x hx).mpr a))
    exact this.elim (fun e => .inl e.symm) fun a => .inr ((m.aj o ho x hx).mp a)
  · rintro ⟨_, _, h1, h2⟩
    refine ⟨h1, fun x hx => ?_⟩
    have hxS : x ∈ S := hx.elim (fun e => e ▸ hp) (fun h => m.sub h)
    have := h2 x hxS (hx.elim (fun e => .inl e.symm) fun a => .inr ((m.aj p hp x hxS).mp a))
    exact this.elim (fun e => .inl e.symm) fun a => .inr ((m.aj o ho x hxS).mpr a)
theorem folds_of_eq (F : Flds tb pr cs) {g : D} {S P : List Str} {A : Str → Str → Prop} {E : List (Str × Str)} (m : Mg g S A P E) {p o : Str} (hp : p ∈ S) (ho : o ∈ S) {st : Sst} : callF tb pr (k + 2) ("folds_of", none) [g, .str p, .str o] st = some (.fz (.bl (fldG E p o)), st) := by
  have h1 := arG_len (P := P) (E := E) (p := p)
  have h2 := m.l2
  have sA : ∀ {y}, y ∈ S → ∀ x ∈ y :: arG E y, Sok x := fun {y} hy x hx => by
    rcases List.mem_cons.mp hx with rfl | hx
    · exact m.sS hy
    · exact m.sS (m.sub ((arG_mem m.ok).mp hx))
  refine rn_eq (rn_fn (F.p _ _) F.folds_of rfl ?_)
  simp [f_folds_of, us, usL, usB, usLB, usS, usO, frz_eq, ownT, pEq_str (m.sS hp) (m.sS ho)]
  refine ⟨fun hpo => ?_, fun hpo => ?_⟩
  · refine ⟨_, holds_eq F m hp, ?_⟩
    have a1 := sA hp
    have a2 := sA ho
    have ho' := @holds_eq tb pr k cs F g S P A E m o ho st
    simp only [er_ol]
    rw [show fldG E p o = (p :: arG E p).all fun x => decide (x ∈ o :: arG E o) from by simp [fldG, hpo]]
    have hl : (p :: arG E p).length ≤ 1001 := by rw [List.length_cons]; omega
    generalize p :: arG E p = B at *
    generalize o :: arG E o = A at *
    simp
    refine lc_ofm D.str (fun x => .bl (decide (x ∈ A))) (fun x hx => ?_) ?_
    · simp
      refine ⟨_, ho', ?_⟩
      simp [in_strs (a1 x hx) a2]
    · simp only [List.length_map, rn_bools]
      refine ⟨fits_of (by omega), ?_, trivial⟩
      simp
  · subst hpo
    simp [fldG]
theorem Mg.less {g : D} {S P : List Str} {A : Str → Str → Prop} {E : List (Str × Str)} (m : Mg g S A P E) {p o : Str} (hpo : p ≠ o) (ho : o ∈ S) : Mg (groundD (Gr.less (gPl P) p) (lessE (gPa E) p)) (Gr.less S p) A (Gr.less (gPl P) p) (lessE (gPa E) p) := by
  have hE : ∀ e ∈ lessE (gPa E) p, e ∈ gPa E ∧ p ≠ e.1 ∧ p ≠ e.2 := fun e he => by
    unfold lessE at he
    rw [List.mem_filter] at he
    simp at he
    exact he
  have lP : (Gr.less (gPl P) p).length ≤ P.length := by
    refine Nat.le_trans (List.length_filter_le _ _) ?_
    unfold gPl
    rw [(srt_perm _ _).length_eq]
    exact Nat.le_refl _
  have lE : (lessE (gPa E) p).length ≤ E.length := by
    refine Nat.le_trans (List.length_filter_le _ _) ?_
    unfold gPa srtS
    rw [List.length_mergeSort, List.length_map]
    exact Nat.le_refl _
  have l1 := m.l1
  have l2 := m.l2
  have nn : ∀ e ∈ gPa E, norm e = e := fun e he => by
    have h1 : e ∈ E.map norm := (List.mergeSort_perm _ _).mem_iff.mp he
    obtain ⟨e', he', rfl⟩ := List.mem_map.mp h1
    exact norm_norm (m.ok.pr e' he').2.2
  refine ⟨rfl, ⟨?_, ?_, ?_, by omega, ?_, ?_, by omega⟩, ?_, ?_, by omega, by omega⟩
  · exact List.ne_nil_of_mem (Gr.mem_less.mpr ⟨gPl_mem.mpr ((m.ps o).mpr ho), hpo.symm⟩)
  · exact List.Pairwise.filter _ ((srt_perm D.str P).nodup_iff.mpr m.ok.nd)
  · intro s hs
    exact m.ok.nm s (gPl_mem.mp (Gr.mem_less.mp hs).1)
  · intro e he
    obtain ⟨h1, h2, h3⟩ := hE e he
    obtain ⟨q1, q2, q3⟩ := gPa_mem m.ok h1
    exact ⟨Gr.mem_less.mpr ⟨q1, h2.symm⟩, Gr.mem_less.mpr ⟨q2, h3.symm⟩, q3⟩
  · rw [List.map_congr_left (g := id) (fun e he => nn e (hE e he).1), List.map_id]
    exact List.Pairwise.filter _ ((List.mergeSort_perm (E.map norm) _).nodup_iff.mpr m.ok.un)
  · intro x
    rw [Gr.mem_less, Gr.mem_less, gPl_mem, m.ps]
  · intro x hx y hy
    have hx := Gr.mem_less.mp hx
    have hy := Gr.mem_less.mp hy
    rw [aj_less hx.2 hy.2, gPa_aj m.ok]
    exact m.aj x hx.1 y hy.1
theorem without_of_eq (F : Flds tb pr cs) (HG : ∀ k, pr (k + 6) ("Ground", some "__init__") = some groundP) {g : D} {S P : List Str} {A : Str → Str → Prop} {E : List (Str × Str)} (m : Mg g S A P E) {p o : Str} (hp : p ∈ S) (hpo : p ≠ o) (ho : o ∈ S) {st : Sst} : callF tb pr (k + 8) ("without_of", none) [g, .str p] st = some (.fz (groundD (Gr.less (gPl P) p) (lessE (gPa E) p)), st) := by
  have hf : fldD g "own_places" ["Ground"] = some (.lst ((gPl P).map .str)) := by rw [m.e]; exact obG_places
  have hf2 : fldD g "own_paths" ["Ground"] = some (.lst ((gPa E).map pD)) := by rw [m.e]; exact obG_paths
  have m' := m.less hpo ho
  have l1 := m'.l1
  have l2 := m'.l2
  refine rn_eq (rn_fn (F.p _ _) F.without_of rfl ?_)
  simp [f_without_of, us, usL, usB, usLB, usS, usO, frz_eq, ownT]
  refine ⟨_, hf, ?_⟩
  simp
  refine lc_of D.str (fun x => decide (x ≠ p)) D.str (fun x hx => ?_) ?_
  · simp [pEq_str (m.so x hx) (m.sS hp)]
  · simp only [List.length_map]
    refine ⟨fits_of (Nat.le_trans l1 (by omega)), ?_⟩
    simp [us, usL, usB, usLB, usS, usO, frz_eq, ownT]
    refine ⟨_, hf2, ?_⟩
    simp
    refine lc_of pD (fun e => !decide (p = e.1 ∨ p = e.2)) pD (fun x hx => ?_) ?_
    · have hx' := gPa_mem m.ok hx
      simp [in_pD (m.sS hp) (show Pok x from ⟨m.so _ hx'.1, m.so _ hx'.2.1⟩)]
      exact fun h h1 => h.elim (fun h => absurd h h1) id
    · simp only [List.length_map]
      refine ⟨fits_of (Nat.le_trans l2 (by omega)), ?_⟩
      refine rn_pr (HG _) ?_
      have e1 : List.filter (fun x => !decide (x = p)) (gPl P) = Gr.less (gPl P) p := by
        unfold Gr.less
        congr 1
        funext x
        by_cases z : x = p <;> simp [z]
      have e2 := groundP_ok (st := st) (.inl rfl) (.inl rfl) (All2.ofMap (f := pD) (R := fun d p => Sq d [.str p.1, .str p.2]) fun _ _ => .inr rfl) m'.ok
      unfold lessE at e2 ⊢
      rw [e1, e2]
      simp
end
end Ev
/-! EvF6 -/
namespace Ev
open PySem PySem.Spec PyProof.Rows L2
section
variable {tb : Str × Option Str → Option FnI} {pr : PrimF} {k : Nat} {cs : List Str}
theorem PL.sq {d : D} {l : List (Str × Str)} (h : PL d l) : ∃ ds, Sq d ds ∧ All2 SqP ds l := h
theorem folds_drop {A : Str → Str → Prop} : ∀ {l : List (Str × Str)} {S : List Str} {i : Nat} {e : Str × Str}, Gr.Folds A S l → l[i]? = some e → Gr.IsFold A (Gr.restS S (l.take i)) e.1 e.2 ∧ Gr.restS S (l.take (i + 1)) = Gr.less (Gr.restS S (l.take i)) e.1
  | [], S, i, e, h, he => by simp at he
  | q :: l, S, 0, e, h, he => by simp at he; subst he; exact ⟨h.1, rfl⟩
  | q :: l, S, i + 1, e, h, he => folds_drop (l := l) (S := Gr.less S q.1) h.2 (by simpa using he)
theorem gone_through_eq (F : Flds tb pr cs) (HG : ∀ k, pr (k + 6) ("Ground", some "__init__") = some groundP) {g : D} {S P : List Str} {A : Str → Str → Prop} {E : List (Str × Str)} (m : Mg g S A P E) {d : D} {l : List (Str × Str)} (hd : PL d l) (hf : Gr.Folds A S l) {st : Sst} :
    Rn (callF tb pr (k + 9) ("gone_through", none) [g, d] st) fun r => ∃ g' P' E', r = (.fz (.tup [.non, g']), st) ∧ Mg g' (Gr.restS S l) A P' E' := by
  obtain ⟨ds, hd, ha⟩ := hd
  refine rn_fn (F.p _ _) F.gone_through rfl ?_
  simp [f_gone_through, us, usL, usB, usLB, usS, usO, frz_eq, ownT]
  refine ⟨_, is_list_eq F.toCom hd, ?_⟩
  simp [us, usL, usB, usLB, usS, usO, frz_eq, ownT]
  refine ⟨_, hd.enum, ?_⟩
  refine for_inv (fun i env st' => st' = st ∧ ∃ g' P' E' v2 v3, env = [some (.fz g'), some (.fz d), v2, v3] ∧ Mg g' (Gr.restS S (l.take i)) A P' E') ⟨rfl, g, P, E, none, none, rfl, m⟩ (fun i x env st' hx hI => ?_) (fun env st' hI => ?_)
  · obtain ⟨rfl, g', P', E', v2, v3, rfl, m'⟩ := hI
    rw [List.getElem?_mapIdx] at hx
    obtain ⟨x', hx', rfl⟩ := Option.map_eq_some_iff.mp hx
    obtain ⟨⟨p, o⟩, he, hs⟩ := ha.get hx'
    obtain ⟨hif, hrs⟩ := folds_drop hf he
    simp only at hif hrs
    rw [hrs]
    have hs : Sq x' [.str p, .str o] := hs
    obtain ⟨hp, ho, hpo, _⟩ := hif
    have ip := @is_place_eq tb pr (k + 7) cs F.toCom g' (gPl P') m'.hasP m'.so p (m'.sS hp) st'
    have io := @is_place_eq tb pr (k + 7) cs F.toCom g' (gPl P') m'.hasP m'.so o (m'.sS ho) st'
    have s0 : subS st' x' (.int 0) = some (.str p) := by rw [hs.sub]; simp
    have s1 : subS st' x' (.int 1) = some (.str o) := by rw [hs.sub]; simp
    have mp : p ∈ gPl P' := gPl_mem.mpr ((m'.ps p).mpr hp)
    have mo : o ∈ gPl P' := gPl_mem.mpr ((m'.ps o).mpr ho)
    have fo := @folds_of_eq tb pr (k + 6) cs F g' (Gr.restS S (l.take i)) P' A E' m' p o hp ho st'
    rw [show fldG E' p o = true from (fldG_iff m' hp ho).mpr ⟨hp, ho, hpo, by assumption⟩] at fo
    simp [us, usL, usB, usLB, usS, usO, frz_eq, ownT]
    refine ⟨_, is_row_eq F.toCom hs (n := 2) rfl, ?_⟩
    simp [us, usL, usB, usLB, usS, usO, frz_eq, ownT, s0, s1]
    refine ⟨_, ip, ?_⟩
    simp [us, usL, usB, usLB, usS, usO, frz_eq, ownT, s0, s1, mp]
    refine ⟨_, io, ?_⟩
    simp [us, usL, usB, usLB, usS, usO, frz_eq, ownT, s0, s1, mo]
    refine ⟨_, fo, ?_⟩
    simp [us, usL, usB, usLB, usS, usO, frz_eq, ownT, s0, s1]
    refine ⟨_, without_of_eq F HG m' hp hpo ho, ?_⟩
    exact ⟨rfl, _, rfl, _, _, m'.less hpo ho⟩
  · obtain ⟨rfl, g', P', E', v2, v3, rfl, m'⟩ := hI
    have hl : Gr.restS S (List.take (List.mapIdx (fun i d => D.tup [D.int i, d]) ds).length l) = Gr.restS S l := by
      rw [List.length_mapIdx, ha.length, List.take_length]
    rw [hl] at m'
    simp [us, usL, usB, usLB, usS, usO, frz_eq, ownT]
    exact ⟨fits_of (by decide), _, _, m'⟩
theorem rest_of_rn (F : Flds tb pr cs) (HG : ∀ k, pr (k + 6) ("Ground", some "__init__") = some groundP) {g : D} {S P : List Str} {A : Str → Str → Prop} {E : List (Str × Str)} (m : Mg g S A P E) {d : D} {l : List (Str × Str)} (hd : PL d l) (hf : Gr.Folds A S l) {st : Sst} :
    Rn (callF tb pr (k + 10) ("rest_of", none) [g, d] st) fun r => ∃ g' P' E', r = (.fz g', st) ∧ Mg g' (Gr.restS S l) A P' E' := by
  have cg : callF tb pr (k + 9) ("check_ground", none) [g] st = some (.fz .non, st) := by rw [m.e]; exact check_ground_eq F.toCom
  refine rn_fn (F.p _ _) F.rest_of rfl ?_
  simp [f_rest_of, us, usL, usB, usLB, usS, usO, frz_eq, ownT]
  refine ⟨_, cg, ?_⟩
  simp [us, usL, usB, usLB, usS, usO, frz_eq, ownT]
  obtain ⟨_, e, g', P', E', rfl, m'⟩ := gone_through_eq (k := k) F HG m hd hf (st := st)
  refine ⟨_, e, ?_⟩
  simp [us, usL, usB, usLB, usS, usO, frz_eq, ownT]
  exact ⟨P', E', m'⟩
theorem check_level_eq (F : Flds tb pr cs) (HG : ∀ k, pr (k + 6) ("Ground", some "__init__") = some groundP) {g : D} {S P : List Str} {A : Str → Str → Prop} {E : List (Str × Str)} (m : Mg g S A P E) {d : D} {l : List (Str × Str)} (hd : PL d l) (hf : Gr.Folds A S l) {n : Nat} (hn : n ≤ l.length) {st : Sst} :
    callF tb pr (k + 11) ("check_level", none) [g, d, .int n] st = some (.fz .non, st) := by
  refine rn_eq (rn_fn (F.p _ _) F.check_level rfl ?_)
  simp [f_check_level, us, usL, usB, usLB, usS, usO, frz_eq, ownT]
  obtain ⟨_, e, g', P', E', rfl, m'⟩ := rest_of_rn (k := k) F HG m hd hf (st := st)
  obtain ⟨ds, hd, ha⟩ := hd
  refine ⟨_, e, ?_⟩
  simp [us, usL, usB, usLB, usS, usO, frz_eq, ownT]
  refine ⟨_, hd.len, ?_⟩
  simp
  refine ⟨_, is_index_eq (k := k + 7) F.toCom (by omega) (by rw [ha.length]; omega), ?_⟩
  simp
theorem shadow_eq (F : Flds tb pr cs) (HG : ∀ k, pr (k + 6) ("Ground", some "__init__") = some groundP) {g : D} {S P : List Str} {A : Str → Str → Prop} {E : List (Str × Str)} (m : Mg g S A P E) {d : D} {l : List (Str × Str)} (hd : PL d l) (hf : Gr.Folds A S l) {n : Nat} (hn : n ≤ l.length) {p : Str} (hp : p ∈ S) {st : Sst} :
    callF tb pr (k + 12) ("shadow", none) [g, d, .int n, .str p] st = some (.fz (.str (Gr.shade (l.take n) p)), st) := by
  have hl : ∀ e ∈ l, Pok e := fun e he => ⟨m.sS (Gr.folds_in hf e he).1, m.sS (Gr.folds_in hf e he).2⟩
  refine rn_eq (rn_fn (F.p _ _) F.shadow rfl ?_)
  simp [f_shadow, us, usL, usB, usLB, usS, usO, frz_eq, ownT]
  refine ⟨_, check_level_eq F HG m hd hf hn, ?_⟩
  simp [us, usL, usB, usLB, usS, usO, frz_eq, ownT]
  refine ⟨_, check_place_eq (k := k + 9) F.toCom m.hasP m.so (gPl_mem.mpr ((m.ps p).mpr hp)), ?_⟩
  simp [us, usL, usB, usLB, usS, usO, frz_eq, ownT]
  refine ⟨_, shade_eq (k := k + 10) F hd hl (m.sS hp), ?_⟩
  simp
theorem follow_eq (F : Flds tb pr cs) (HG : ∀ k, pr (k + 6) ("Ground", some "__init__") = some groundP) {g : D} {S P : List Str} {A : Str → Str → Prop} {E : List (Str × Str)} (m : Mg g S A P E) {d : D} {l : List (Str × Str)} (hd : PL d l) (hf : Gr.Folds A S l) {n : Nat} (hn : n ≤ l.length) {p : Str} (hp : p ∈ S) {st : Sst} :
    callF tb pr (k + 13) ("follow", none) [g, d, .int n, .str p] st = some (.fz (.str (Gr.shade (l.take n) p)), st) := by
  refine rn_eq (rn_fn (F.p _ _) F.follow rfl ?_)
  simp [f_follow, us, usL, usB, usLB, usS, usO, frz_eq, ownT]
  refine ⟨_, shadow_eq F HG m hd hf hn hp, ?_⟩
  simp
end
end Ev
/-! EvF7 -/
namespace Gr
variable {α : Type} [DecidableEq α] {A A' : α → α → Prop}
theorem isFold_set {S S' : List α} (h : ∀ x, x ∈ S ↔ x ∈ S') {p o : α} (f : IsFold A S p o) : IsFold A S' p o :=
  ⟨(h _).mp f.1, (h _).mp f.2.1, f.2.2.1, fun x hx n => f.2.2.2 x ((h x).mpr hx) n⟩
theorem less_set {S S' : List α} (h : ∀ x, x ∈ S ↔ x ∈ S') {p : α} : ∀ x, x ∈ less S p ↔ x ∈ less S' p := fun x => by rw [mem_less, mem_less, h]
theorem folds_set {l : List (α × α)} : ∀ {S S' : List α}, (∀ x, x ∈ S ↔ x ∈ S') → Folds A S l → Folds A S' l ∧ ∀ x, x ∈ restS S l ↔ x ∈ restS S' l := by
  induction l with
  | nil => intro S S' h _; exact ⟨trivial, h⟩
  | cons q l ih =>
    intro S S' h f
    obtain ⟨h1, h2⟩ := ih (less_set (p := q.1) h) f.2
    exact ⟨⟨isFold_set h f.1, h1⟩, h2⟩
theorem folds_adj {l : List (α × α)} : ∀ {S : List α}, (∀ x ∈ S, ∀ y ∈ S, A x y ↔ A' x y) → Folds A S l → Folds A' S l := by
  induction l with
  | nil => intro S h _; trivial
  | cons q l ih =>
    intro S h f
    exact ⟨(isFold_congr h).mp f.1, ih (fun x hx y hy => h x (mem_less.mp hx).1 y (mem_less.mp hy).1) f.2⟩
end Gr
namespace Ev
open PySem PySem.Spec PyProof.Rows L2
theorem norm_inj {a b m : Str} (ha : a ≠ m) (hb : b ≠ m) (h : norm (a, m) = norm (b, m)) : a = b := by
  rcases norm_or (a, m) ha with z | z <;> rcases norm_or (b, m) hb with w | w <;> rw [z, w] at h
  · exact congrArg Prod.fst h
  · exact absurd (congrArg Prod.fst h) ha
  · exact absurd (congrArg Prod.fst h).symm hb
  · exact congrArg Prod.snd h
structure Stg (M : List Str) (t : Nat) (F : List (Str × Str)) : Prop where
  pr : ∀ e ∈ F, e.1 ∈ M.take t ∧ e.2 ∈ M.take t ∧ e.1 ≠ e.2 ∧ norm e = e
  nd : F.Nodup
  ln : F.length ≤ 8 * t
  fo : ∃ l, Gr.Folds (Aj F) (M.take t) l ∧ ∀ x ∈ Gr.restS (M.take t) l, M[0]? = some x
theorem Stg.zero {M : List Str} : Stg M 1 [] := by
  refine ⟨by simp, List.nodup_nil, by simp, [], trivial, ?_⟩
  intro x hx
  have hx : x ∈ M.take 1 := hx
  cases M with
  | nil => simp at hx
  | cons a M => simp at hx; subst hx; rfl
theorem Stg.next {M : List Str} {t : Nat} {F : List (Str × Str)} (h : Stg M t F) (nd : M.Nodup) (l8 : M.length ≤ 8) {m onto : Str} (hm : M[t]? = some m) (ho : onto ∈ M.take t)
    {sel : List Str} (hs : sel.Sublist ((M.take t).filter fun one => decide (one = onto) || decide (norm (one, onto) ∈ F))) (hos : onto ∈ sel) : Stg M (t + 1) (F ++ sel.map fun one => norm (one, m)) := by
  have ht : t < M.length := (List.getElem?_eq_some_iff.mp hm).1
  have hT : M.take (t + 1) = M.take t ++ [m] := by rw [List.take_add_one, hm]; rfl
  have hmT : m ∉ M.take t := by
    intro z
    have : (M.take (t + 1)).Nodup := nd.sublist (List.take_sublist _ _)
    rw [hT, List.nodup_append] at this
    exact this.2.2 m z m (by simp) rfl
  have selT : ∀ a ∈ sel, a ∈ M.take t := fun a ha => (List.mem_filter.mp (hs.subset ha)).1
  have selm : ∀ a ∈ sel, a ≠ m := fun a ha z => hmT (z ▸ selT a ha)
  have tin : ∀ a, a ∈ M.take t → a ∈ M.take (t + 1) := fun a ha => by rw [hT]; simp [ha]
  have min : m ∈ M.take (t + 1) := by rw [hT]; simp
  have ajn : ∀ x y, Aj (F ++ sel.map fun one => norm (one, m)) x y ↔ Aj F x y ∨ (x = m ∧ y ∈ sel) ∨ (y = m ∧ x ∈ sel) := by
    intro x y
    have e1 : ∀ a b, (a, b) ∈ F ++ (sel.map fun one => norm (one, m)) → (a, b) ∈ F ∨ (a = m ∧ b ∈ sel) ∨ (b = m ∧ a ∈ sel) := by
      intro a b z
      rcases List.mem_append.mp z with z | z
      · exact .inl z
      · obtain ⟨c, hc, z⟩ := List.mem_map.mp z
        rcases norm_or (c, m) (selm c hc) with w | w
        · rw [w] at z; cases z; exact .inr (.inr ⟨rfl, hc⟩)
        · rw [w] at z; cases z; exact .inr (.inl ⟨rfl, hc⟩)
    have e2 : ∀ c, c ∈ sel → Aj (F ++ sel.map fun one => norm (one, m)) c m := by
      intro c hc
      have z : norm (c, m) ∈ F ++ sel.map fun one => norm (one, m) := List.mem_append_right _ (List.mem_map_of_mem hc)
      rcases norm_or (c, m) (selm c hc) with w | w
      · rw [w] at z; exact .inl z
      · rw [w] at z; exact .inr z
    constructor
    · rintro (z | z)
      · rcases e1 _ _ z with z | z
        · exact .inl (.inl z)
        · exact .inr z
      · rcases e1 _ _ z with z | z | z
        · exact .inl (.inr z)
        · exact .inr (.inr z)
        · exact .inr (.inl z)
    · rintro (z | ⟨rfl, z⟩ | ⟨rfl, z⟩)
      · exact z.elim (fun z => .inl (List.mem_append_left _ z)) fun z => .inr (List.mem_append_left _ z)
      · exact (e2 _ z).symm
      · exact e2 _ z
  have FT : ∀ {x y}, Aj F x y → x ∈ M.take t ∧ y ∈ M.take t := fun z => z.elim (fun z => ⟨(h.pr _ z).1, (h.pr _ z).2.1⟩) fun z => ⟨(h.pr _ z).2.1, (h.pr _ z).1⟩
  refine ⟨?_, ?_, ?_, ?_⟩
  · intro e he
    rcases List.mem_append.mp he with he | he
    · obtain ⟨h1, h2, h3, h4⟩ := h.pr e he
      exact ⟨tin _ h1, tin _ h2, h3, h4⟩
    · obtain ⟨c, hc, rfl⟩ := List.mem_map.mp he
      refine ⟨?_, ?_, ?_, norm_norm (selm c hc)⟩
      all_goals rcases norm_or (c, m) (selm c hc) with w | w <;> rw [w]
      · exact tin _ (selT c hc)
      · exact min
      · exact min
      · exact tin _ (selT c hc)
      · exact selm c hc
      · exact (selm c hc).symm
  · rw [List.nodup_append]
    refine ⟨h.nd, ?_, ?_⟩
    · have : sel.Nodup := (((nd.sublist (List.take_sublist _ _)).filter _).sublist hs)
      unfold List.Nodup at this ⊢
      rw [List.pairwise_map]
      exact this.imp_of_mem fun {a b} ha hb hab z => hab (norm_inj (selm a ha) (selm b hb) z)
    · intro a ha b hb hab
      subst hab
      obtain ⟨c, hc, z⟩ := List.mem_map.mp hb
      obtain ⟨h1, h2, _⟩ := h.pr a ha
      rcases norm_or (c, m) (selm c hc) with w | w
      · rw [w] at z; subst z; exact hmT h2
      · rw [w] at z; subst z; exact hmT h1
  · have := hs.length_le
    have := List.length_filter_le (fun one => decide (one = onto) || decide (norm (one, onto) ∈ F)) (M.take t)
    have := h.ln
    rw [List.length_append, List.length_map]
    rw [List.length_take] at *
    omega
  · obtain ⟨l, hl, hr⟩ := h.fo
    refine ⟨(m, onto) :: l, ?_⟩
    have set : ∀ x, x ∈ Gr.less (M.take (t + 1)) m ↔ x ∈ M.take t := by
      intro x
      rw [Gr.mem_less, hT]
      simp
      exact ⟨fun ⟨h1, h2⟩ => h1.resolve_right h2, fun h1 => ⟨.inl h1, fun z => hmT (z ▸ h1)⟩⟩
    have hl' : Gr.Folds (Aj (F ++ sel.map fun one => norm (one, m))) (M.take t) l := by
      refine Gr.folds_adj (fun x hx y hy => ?_) hl
      rw [ajn]
      constructor
      · exact .inl
      · rintro (z | ⟨rfl, z⟩ | ⟨rfl, z⟩)
        · exact z
        · exact absurd hx hmT
        · exact absurd hy hmT
    obtain ⟨f1, f2⟩ := Gr.folds_set (fun x => (set x).symm) hl'
    refine ⟨⟨⟨min, tin _ ho, fun z => hmT (z ▸ ho), ?_⟩, f1⟩, fun x hx => hr x ((f2 x).mpr hx)⟩
    intro x hx n
    rcases n with rfl | n
    · exact .inr ((ajn _ _).mpr (.inr (.inr ⟨rfl, hos⟩)))
    · rcases (ajn _ _).mp n with z | ⟨_, z⟩ | ⟨rfl, z⟩
      · exact absurd (FT z).1 hmT
      · have := (List.mem_filter.mp (hs.subset z)).2
        simp at this
        rcases this with rfl | this
        · exact .inl rfl
        · have ne : x ≠ onto := fun w => by
            subst w
            exact (h.pr _ this).2.2.1 (by unfold norm; simp)
          refine .inr ((ajn _ _).mpr (.inl ?_))
          rcases norm_or (x, onto) ne with w | w
          · rw [w] at this; exact .inr this
          · rw [w] at this; exact .inl this
      · exact absurd rfl (selm _ z)
end Ev
/-! EvF8 -/
namespace Ev
open PySem PySem.Spec PyProof.Rows L2
structure Lg (N : List Str) (E : List (Str × Str)) : Prop where
  ne : N ≠ []
  nd : N.Nodup
  nm : ∀ s ∈ N, Nm s
  l8 : N.length ≤ 8
  pr : ∀ e ∈ E, e.1 ∈ N ∧ e.2 ∈ N ∧ e.1 ≠ e.2 ∧ norm e = e
  un : E.Nodup
  fe : E.length ≤ 64
theorem Lg.gd {N : List Str} {E : List (Str × Str)} (h : Lg N E) : Gd N E := by
  have := h.l8
  have := h.fe
  exact ⟨fun s hs => (h.nm s hs).ok, fun e he => ⟨(h.pr e he).1, (h.pr e he).2.1, (h.pr e he).2.2.1⟩, by omega, by omega⟩
theorem perm_map {α β : Type} {f : α → β} {xs ys : List β} (h : xs.Perm ys) : ∀ N : List α, ys = N.map f → ∃ M : List α, xs = M.map f ∧ M.Perm N := by
  induction h with
  | nil => intro N hN; exact ⟨N, hN, .refl _⟩
  | cons x _ ih =>
    intro N hN
    cases N with
    | nil => cases hN
    | cons a N =>
      rw [List.map_cons] at hN
      injection hN with h1 h2
      obtain ⟨M, hM, hp⟩ := ih N h2
      exact ⟨a :: M, by rw [List.map_cons, h1, hM], hp.cons a⟩
  | swap x y l =>
    intro N hN
    cases N with
    | nil => cases hN
    | cons a N =>
      cases N with
      | nil => cases hN
      | cons b N =>
        rw [List.map_cons, List.map_cons] at hN
        injection hN with h1 h2
        injection h2 with h2 h3
        exact ⟨b :: a :: N, by rw [List.map_cons, List.map_cons, h1, h2, h3], .swap a b N⟩
  | trans _ _ ih1 ih2 =>
    intro N hN
    obtain ⟨M2, e2, p2⟩ := ih2 N hN
    obtain ⟨M1, e1, p1⟩ := ih1 M2 e2
    exact ⟨M1, e1, p1.trans p2⟩
theorem sub_take {α : Type} {sel L : List α} {j : Nat} {x : α} (h : sel.Sublist (L.take j)) (hx : L[j]? = some x) : (sel ++ [x]).Sublist (L.take (j + 1)) := by
  rw [List.take_add_one, hx]
  exact h.append (List.Sublist.refl _)
theorem sub_skip {α : Type} {sel L : List α} {j : Nat} (h : sel.Sublist (L.take j)) : sel.Sublist (L.take (j + 1)) := by
  rw [List.take_add_one]
  exact h.trans (List.sublist_append_left _ _)
def envF (m0 : Nat) (N M : List Str) (z : Int) (G : List (Str × Str)) (onto : Str) (NR : List Str) (v8 : Option T) : Env :=
  [some (.fz (.tok 0)), some (.fz (.int m0)), some (.fz (.lst (N.map .str))), some (.fz (.int z)), some (.ol (M.map .str)), some (.ol (G.map pD)), some (.fz (.str onto)), some (.fz (.lst (NR.map .str))), v8]
/-- at the inner loop -/
def IJ (m0 : Nat) (N M : List Str) (z : Int) (FF : List (Str × Str)) (m onto : Str) (NR : List Str) (b : Int) (j : Nat) (env : Env) (st : Sst) : Prop :=
  ∃ (sel : List Str) (v8 : Option T), env = envF m0 N M z (FF ++ sel.map fun one => norm (one, m)) onto NR v8 ∧ sel.Sublist (NR.take j) ∧ (onto ∈ NR.take j → onto ∈ sel) ∧ Ok (b + j) st
theorem IJ.add {m0 : Nat} {N M : List Str} {z : Int} {FF : List (Str × Str)} {m onto : Str} {NR : List Str} {b : Int} {j : Nat} {st : Sst} {sel : List Str} {v8 : Option T} {one : Str} (hone : NR[j]? = some one)
    (hs : sel.Sublist (NR.take j)) (hso : onto ∈ NR.take j → onto ∈ sel) (h : Ok (b + j + 1) st) : IJ m0 N M z FF m onto NR b (j + 1) (envF m0 N M z ((FF ++ sel.map fun one => norm (one, m)) ++ [norm (one, m)]) onto NR v8) st :=
  ⟨sel ++ [one], v8, by simp, sub_take hs hone, fun h => by
    rw [List.take_add_one, hone] at h
    rcases List.mem_append.mp h with h | h
    · exact List.mem_append_left _ (hso h)
    · exact List.mem_append_right _ (by simpa using h), h.mono (by omega)⟩
theorem IJ.skip {m0 : Nat} {N M : List Str} {z : Int} {FF : List (Str × Str)} {m onto : Str} {NR : List Str} {b : Int} {j : Nat} {st : Sst} {sel : List Str} {v8 : Option T} {one : Str} (hone : NR[j]? = some one) (hne : ¬ one = onto)
    (hs : sel.Sublist (NR.take j)) (hso : onto ∈ NR.take j → onto ∈ sel) (h : Ok (b + j + 1) st) : IJ m0 N M z FF m onto NR b (j + 1) (envF m0 N M z (FF ++ sel.map fun one => norm (one, m)) onto NR v8) st :=
  ⟨sel, v8, rfl, sub_skip hs, fun h => by
    rw [List.take_add_one, hone] at h
    rcases List.mem_append.mp h with h | h
    · exact hso h
    · exact absurd (by simpa using h : onto = one).symm hne, h.mono (by omega)⟩
section
variable {tb : Str × Option Str → Option FnI} {pr : PrimF} {k : Nat} {cs : List Str}
theorem min_norm {a b : Str} : biD .min [.str a, .str b] = some (.str (norm (a, b)).1) := rfl
theorem max_norm {a b : Str} : biD .max [.str a, .str b] = some (.str (norm (a, b)).2) := rfl
theorem norm_ok {a b : Str} (ha : Sok a) (hb : Sok b) : Pok (norm (a, b)) := by
  unfold norm Pok
  constructor <;> dsimp only <;> split <;> assumption
theorem folding_rn (F : Flds tb pr cs) {n : Int} {st : Sst} (h : Ok n st) (hn : n + 200 < 2 ^ 40) {m0 : Nat} (hm0 : 0 < m0) (hm8 : m0 ≤ 8) {P : T × Sst → Prop}
    (q : ∀ N E st', Lg N E → (∃ c l, Gr.Folds (Aj E) N l ∧ ∀ x ∈ Gr.restS N l, x = c) → Ok (n + 200) st' → P (.fz (lgD N E), st')) :
    Rn (callF tb pr (k + 4) ("_law_folding", none) [.tok 0, .int m0] st) P := by
  refine rn_fn (F.p _ _) F.law_folding rfl ?_
  simp [flaw_folding, us, usL, usB, usLB, usS, usO, frz_eq, ownT]
  refine draw_rn (k := k + 2) F.toCom h (by omega) (by omega) (by omega) fun d st1 d0 d1 h1 => ?_
  obtain ⟨mm, rfl⟩ : ∃ mm : Nat, d = (mm : Int) := ⟨d.toNat, by omega⟩
  simp
  rw [show (1 + (mm : Int)) = ((mm + 1 : Nat) : Int) from by omega]
  refine names_rn (k := k) F.toCom h1 (by omega) (by omega) fun ss st2 sl snd snm h2 => ?_
  simp [sort_strs (show ss.length ≤ 16777216 by omega)]
  have sp := srt_perm D.str ss
  have NL : (srt D.str ss).length = mm + 1 := by rw [sp.length_eq, sl]
  have Nnd : (srt D.str ss).Nodup := sp.nodup_iff.mpr snd
  have Nnm : ∀ s ∈ srt D.str ss, Nm s := fun s hs => snm s (sp.mem_iff.mp hs)
  generalize srt D.str ss = N at *
  clear sp snd snm sl
  refine mixed_rn (k := k + 1) F.toCom (.inl rfl) h2 (by simp; omega) (by simp; omega) fun ds st3 dp h3 => ?_
  obtain ⟨M, rfl, Mp⟩ := perm_map dp N rfl
  have ML : M.length = mm + 1 := by rw [Mp.length_eq, NL]
  have Mnd : M.Nodup := Mp.nodup_iff.mpr Nnd
  have Mok : ∀ s ∈ M, Sok s := fun s hs => (Nnm s (Mp.mem_iff.mp hs)).ok
  simp [us, usL, usB, usLB, usS, usO, frz_eq, ownT]
  refine ⟨fits_of (by decide), ?_⟩
  rw [show rangeD 1 (M.length : Int) = rangeD ((1 : Nat) : Int) (M.length : Int) from rfl, range_from (by omega) (by omega)]
  simp
  refine for_inv (fun i env st' => ∃ FF v3 v6 v7 v8, env = [some (.fz (.tok 0)), some (.fz (.int m0)), some (.fz (.lst (N.map .str))), v3, some (.ol (M.map .str)), some (.ol (FF.map pD)), v6, v7, v8] ∧ Stg M (i + 1) FF ∧ Ok (n + 50 + (9 * i : Nat)) st') ⟨[], _, _, _, _, rfl, Stg.zero, h3.mono (by simp; omega)⟩ (fun i x env st4 hx hI => ?_) (fun env st4 hI => ?_)
  · obtain ⟨FF, v3, v6, v7, v8, rfl, hS, h4⟩ := hI
    obtain ⟨j, hj, rfl⟩ := get_map hx
    obtain ⟨hjl, hj⟩ := List.getElem?_eq_some_iff.mp hj
    rw [List.getElem_range] at hj
    subst hj
    rw [List.length_range] at hjl
    rw [show (1 + (i : Int)) = ((i + 1 : Nat) : Int) from by omega]
    have hi : i + 1 < M.length := by omega
    obtain ⟨m, hm⟩ : ∃ m, M[i + 1]? = some m := ⟨_, List.getElem?_eq_getElem hi⟩
    have sm : Sok m := Mok m (List.mem_of_getElem? hm)
    have sF : ∀ e ∈ FF, Pok e := fun e he => ⟨Mok _ (List.mem_of_mem_take (hS.pr e he).1), Mok _ (List.mem_of_mem_take (hS.pr e he).2.1)⟩
    have lF := hS.ln
    have sT : ∀ x ∈ M.take (i + 1), Sok x := fun x hx => Mok x (List.mem_of_mem_take hx)
    have hcut : cutD (D.lst (M.map D.str)) none (some ((i + 1 : Nat) : Int)) = some (.lst ((M.take (i + 1)).map .str)) := by rw [cutD_lst, List.map_take]
    have hat : ∀ st : Sst, subS st (D.lst (M.map D.str)) (.int ((i + 1 : Nat) : Int)) = some (.str m) := fun st => by
      show atI _ _ = _
      refine atI_nat' (by omega) ?_
      rw [Int.toNat_natCast, List.getElem?_map, hm]; rfl
    have hat' := hat st4
    rw [subS_lst, subD_lst] at hat'
    generalize hz : ((i + 1 : Nat) : Int) = z at hcut hat hat'
    simp [us, usL, usB, usLB, usS, usO, frz_eq, ownT]
    refine draw_rn (k := k + 2) F.toCom h4 (by omega) (by omega) (by omega) fun d st5 d0 d1 h5 => ?_
    obtain ⟨jj, rfl⟩ : ∃ jj : Nat, d = (jj : Int) := ⟨d.toNat, by omega⟩
    obtain ⟨onto, hon⟩ : ∃ o, M[jj]? = some o := ⟨_, List.getElem?_eq_getElem (by omega)⟩
    have hoT : onto ∈ M.take (i + 1) := by
      refine List.mem_of_getElem? (i := jj) ?_
      rw [List.getElem?_take, if_pos (by omega)]
      exact hon
    have so := sT onto hoT
    have hd : subD (D.lst (M.map D.str)) (.int jj) = some (.str onto) := by
      show atI _ _ = _
      refine atI_nat' (by omega) ?_
      rw [Int.toNat_natCast, List.getElem?_map, hon]; rfl
    refine ⟨_, hd, _, hcut, ?_⟩
    simp only [it_ofL, rn_some]
    refine lc_of D.str (fun one => decide (one = onto) || decide (norm (one, onto) ∈ FF)) D.str (fun one hone => ?_) ?_
    · have hin := in_pairs (norm_ok (sT one hone) so) sF
      simp [pEq_str (sT one hone) so]
      refine ⟨fun h => .inl h, fun h => ⟨fits_of (by decide), _, hin, ?_⟩⟩
      simp [h]
    · simp only [List.length_map]
      have NRl := List.length_filter_le (fun one => decide (one = onto) || decide (norm (one, onto) ∈ FF)) (M.take (i + 1))
      have NRo : onto ∈ (M.take (i + 1)).filter fun one => decide (one = onto) || decide (norm (one, onto) ∈ FF) := List.mem_filter.mpr ⟨hoT, by simp⟩
      have NRs : ∀ x ∈ (M.take (i + 1)).filter fun one => decide (one = onto) || decide (norm (one, onto) ∈ FF), Sok x := fun x hx => sT x (List.mem_filter.mp hx).1
      have nxt := fun sel hs ho => hS.next Mnd (by omega) hm hoT (sel := sel) hs ho
      generalize (M.take (i + 1)).filter (fun one => decide (one = onto) || decide (norm (one, onto) ∈ FF)) = NR at *
      rw [List.length_take] at NRl
      refine ⟨fits_of (by omega), ?_⟩
      refine for_inv (IJ m0 N M z FF m onto NR (n + 50 + (9 * i : Nat) + 1)) ⟨[], v8, by simp [envF], by simp, by simp, h5.mono (by omega)⟩ (fun j x env st6 hx hJ => ?_) (fun env st6 hJ => ?_)
      · obtain ⟨sel, w8, rfl, hs, hso, h6⟩ := hJ
        obtain ⟨one, hone, rfl⟩ := get_map hx
        have sone := NRs one (List.mem_of_getElem? hone)
        have jl : j < NR.length := (List.getElem?_eq_some_iff.mp hone).1
        have sll := hs.length_le
        rw [List.length_take] at sll
        have add := fun st' h' => @IJ.add m0 N M z FF m onto NR (n + 50 + (9 * i : Nat) + 1) j st' sel (some (.fz (.str one))) one hone hs hso h'
        have skip := fun hne st' h' => @IJ.skip m0 N M z FF m onto NR (n + 50 + (9 * i : Nat) + 1) j st' sel (some (.fz (.str one))) one hone hne hs hso h'
        have fl : (FF ++ sel.map fun one => norm (one, m)).length ≤ 100 := by rw [List.length_append, List.length_map]; omega
        generalize FF ++ (sel.map fun one => norm (one, m)) = GG at *
        have ho := pEq_str sone so
        generalize hI : IJ m0 N M z FF m onto NR (n + 50 + (9 * i : Nat) + 1) = IX at *
        have app : ∀ st', Ok (n + 50 + (9 * i : Nat) + 1 + j + 1) st' → fits (GG.length + 1) = true ∧ IX (j + 1) [some (T.fz (D.tok 0)), some (T.fz (D.int m0)), some (T.fz (D.lst (N.map D.str))), some (T.fz (D.int z)), some (T.ol (M.map D.str)), some (T.ol (GG.map pD ++ [D.tup [D.str (norm (one, m)).1, D.str (norm (one, m)).2]])), some (T.fz (D.str onto)), some (T.fz (D.lst (NR.map D.str))), some (T.fz (D.str one))] st' := fun st' h' => by
          refine ⟨fits_of (by omega), ?_⟩
          have := add st' h'
          unfold envF at this
          rw [List.map_append] at this
          exact this
        simp [us, usL, usB, usLB, usS, usO, frz_eq, ownT, envF, ho]
        refine ⟨fun he => ?_, fun he => ⟨fun hlt => ?_, fun hlt => ?_⟩⟩
        · exact ⟨_, hat', _, min_norm, _, hat', _, max_norm, fits_of (by decide), app st6 (h6.mono (by omega))⟩
        · refine draw_rn (k := k + 2) F.toCom h6 (by omega) (by omega) (by omega) fun e st7 e0 e1 h7 => ?_
          exact ⟨_, pEq_int, fun _ => ⟨_, hat', _, min_norm, _, hat', _, max_norm, fits_of (by decide), app st7 (h7.mono (by omega))⟩, fun _ => skip he st7 (h7.mono (by omega))⟩
        · exact skip he st6 (h6.mono (by omega))
      · obtain ⟨sel, w8, rfl, hs, hso, h6⟩ := hJ
        rw [List.length_map] at hs hso h6
        rw [List.take_length] at hs hso
        have nx := nxt sel hs (hso NRo)
        generalize FF ++ (sel.map fun one => norm (one, m)) = GG at *
        simp [us, usL, usB, usLB, usS, usO, frz_eq, ownT, envF]
        exact ⟨GG, rfl, nx, h6.mono (by omega)⟩
  · obtain ⟨FF, v3, v6, v7, v8, rfl, hS, h4⟩ := hI
    rw [List.length_map, List.length_range, show M.length - 1 + 1 = M.length from by omega] at hS
    rw [List.length_map, List.length_range] at h4
    have lF := hS.ln
    have ep := srt_perm pD FF
    have el := ep.length_eq
    simp [us, usL, usB, usLB, usS, usO, frz_eq, ownT]
    refine ⟨_, sort_pairs (by omega), fits_of (by decide), ?_⟩
    have mN : ∀ x, x ∈ M ↔ x ∈ N := fun x => Mp.mem_iff
    have ajE : ∀ x y, Aj FF x y ↔ Aj (srt pD FF) x y := fun x y => by unfold Aj; rw [ep.mem_iff, ep.mem_iff]
    have hpr := hS.pr
    have hfo := hS.fo
    rw [List.take_length] at hpr hfo
    refine q N (srt pD FF) st4 ⟨?_, Nnd, Nnm, by omega, fun e he => ?_, ep.nodup_iff.mpr hS.nd, by omega⟩ ?_ (h4.mono (by omega))
    · intro z; rw [z] at NL; cases NL
    · obtain ⟨h1, h2, h3⟩ := hpr e (ep.mem_iff.mp he)
      exact ⟨(mN _).mp h1, (mN _).mp h2, h3⟩
    · obtain ⟨l, hl, hr⟩ := hfo
      obtain ⟨f1, f2⟩ := Gr.folds_set mN (Gr.folds_adj (fun x _ y _ => ajE x y) hl)
      obtain ⟨c, hc⟩ : ∃ c, M[0]? = some c := ⟨_, List.getElem?_eq_getElem (by omega)⟩
      refine ⟨c, l, f1, fun x hx => ?_⟩
      have := hr x ((f2 x).mpr hx)
      rw [hc] at this
      exact (Option.some.inj this).symm
end
end Ev
/-! EvF9 -/
namespace Ev
open PySem PySem.Spec PyProof.Rows L2
theorem all2_perm {α β : Type} {R : α → β → Prop} {xs ys : List α} (h : xs.Perm ys) : ∀ bs : List β, All2 R ys bs → ∃ bs', bs'.Perm bs ∧ All2 R xs bs' := by
  induction h with
  | nil => intro bs hb; exact ⟨bs, .refl _, hb⟩
  | cons x _ ih =>
    intro bs hb
    cases hb with
    | cons r t =>
      obtain ⟨bs', p, a⟩ := ih _ t
      exact ⟨_, p.cons _, .cons r a⟩
  | swap x y l =>
    intro bs hb
    cases hb with
    | cons r t =>
      cases t with
      | cons r' t' => exact ⟨_, .swap _ _ _, .cons r' (.cons r t')⟩
  | trans _ _ ih1 ih2 =>
    intro bs hb
    obtain ⟨b2, p2, a2⟩ := ih2 bs hb
    obtain ⟨b1, p1, a1⟩ := ih1 b2 a2
    exact ⟨b1, p1.trans p2, a1⟩
theorem all2_eq {α : Type} {xs ys : List α} (h : All2 (fun x y => y = x) xs ys) : ys = xs := by
  induction h with
  | nil => rfl
  | cons r _ ih => rw [r, ih]
theorem all2_comp {α β γ : Type} {R : α → β → Prop} {Q : α → γ → Prop} {U : γ → β → Prop} (c : ∀ a b g, R a b → Q a g → U g b) {xs : List α} {bs : List β} (h : All2 R xs bs) : ∀ {gs : List γ}, All2 Q xs gs → All2 U gs bs := by
  induction h with
  | nil => intro gs hg; cases hg; exact .nil
  | cons r _ ih => intro gs hg; cases hg with
    | cons r' t' => exact .cons (c _ _ _ r r') (ih t')
theorem perm_two {α : Type} {xs : List α} {a b : α} (h : xs.Perm [a, b]) : xs = [a, b] ∨ xs = [b, a] := by
  have hl := h.length_eq
  match xs, hl with
  | [x, y], _ =>
    have := h.mem_iff (a := x)
    simp at this
    rcases this with rfl | rfl
    · have := (List.perm_cons x).mp h
      have := List.perm_singleton.mp this
      simp at this
      exact .inl (by rw [this])
    · have h2 : [x, y].Perm [x, a] := h.trans (.swap _ _ _)
      have := (List.perm_cons x).mp h2
      have := List.perm_singleton.mp this
      simp at this
      exact .inr (by rw [this])
theorem Sq.inj {d : D} {xs ys : List D} (h : Sq d xs) (h' : Sq d ys) : xs = ys := by
  rcases h with rfl | rfl <;> rcases h' with h' | h' <;> first | (injection h') | (cases h')
theorem SqP.inj {d : D} {p e : Str × Str} (h : SqP d e) (h' : SqP d p) : p = e := by
  have := Sq.inj h h'
  injection this with h1 h2
  injection h2 with h2 _
  injection h1 with h1
  injection h2 with h2
  exact Prod.ext h1.symm h2.symm
/-- the law's paths, turned or not -/
theorem turned_ok {N : List Str} {E E1 : List (Str × Str)} (h : Lg N E) (e1 : (E1.map norm).Perm E) {P : List Str} (p : P.Perm N) : OkG P E1 ∧ ∀ x y, Aj E1 x y ↔ Aj E x y := by
  have ne : ∀ e ∈ E1, e.1 ≠ e.2 := fun e he z => by
    have m : norm e ∈ E := e1.mem_iff.mp (List.mem_map_of_mem he)
    have := (h.pr _ m).2.2.1
    apply this
    obtain ⟨a, b⟩ := e
    simp only at z
    subst z
    unfold norm
    simp
  have mm : ∀ e ∈ E1, e ∈ E ∨ (e.2, e.1) ∈ E := fun e he => by
    have m : norm e ∈ E := e1.mem_iff.mp (List.mem_map_of_mem he)
    rcases norm_or e (ne e he) with w | w
    · rw [w] at m; exact .inl m
    · rw [w] at m; exact .inr m
  have mm2 : ∀ e ∈ E, e ∈ E1 ∨ (e.2, e.1) ∈ E1 := fun e he => by
    obtain ⟨c, hc, z⟩ := List.mem_map.mp (e1.mem_iff.mpr he)
    rcases norm_or c (ne c hc) with w | w
    · rw [w] at z; exact .inl (z ▸ hc)
    · rw [w] at z; subst z; exact .inr hc
  have pl := p.length_eq
  have el := e1.length_eq
  rw [List.length_map] at el
  have h8 := h.l8
  have h64 := h.fe
  refine ⟨⟨?_, p.nodup_iff.mpr h.nd, fun s hs => h.nm s (p.mem_iff.mp hs), by omega, fun e he => ?_, e1.nodup_iff.mpr h.un, by omega⟩, fun x y => ?_⟩
  · intro z
    subst z
    exact h.ne (List.eq_nil_of_length_eq_zero (by simpa using pl.symm))
  · have n := ne e he
    rcases mm e he with m | m
    · exact ⟨p.mem_iff.mpr (h.pr _ m).1, p.mem_iff.mpr (h.pr _ m).2.1, n⟩
    · exact ⟨p.mem_iff.mpr (h.pr _ m).2.1, p.mem_iff.mpr (h.pr _ m).1, n⟩
  · unfold Aj
    constructor
    · rintro (z | z)
      · exact mm _ z
      · exact (mm _ z).symm
    · rintro (z | z)
      · exact mm2 _ z
      · exact (mm2 _ z).symm
section
variable {tb : Str × Option Str → Option FnI} {pr : PrimF} {k : Nat} {cs : List Str}
theorem loose_strs (C : Com tb pr cs) {d : D} {ds : List D} (hd : Sq d ds) (hs : ∀ x ∈ ds, ∃ s : Str, x = .str s) (hl : ds.length ≤ 16777216) {n : Int} {st : Sst} (h : Ok n st) (hn : n + 1 < 2 ^ 40) {P : T × Sst → Prop}
    (q : ∀ d' st', Sq d' ds → Ok (n + 1) st' → P (.fz d', st')) : Rn (callF tb pr (k + 2) ("_law_loose", none) [.tok 0, d] st) P := by
  refine loose_seq (R := fun x y => y = x) (c := 0) C hd hl (fun x hx m s Q hm _ r => ?_) h (by simp; omega) (fun ds' d' st' hd' ha h' => ?_)
  · obtain ⟨s, rfl⟩ := hs x hx
    exact loose_str C (r _ _ rfl (hm.mono (by omega)))
  · rw [all2_eq ha] at hd'
    exact q d' st' hd' (h'.mono (by simp))
theorem made_rn (F : Flds tb pr cs) (HG : ∀ k, pr (k + 6) ("Ground", some "__init__") = some groundP) {N : List Str} {E : List (Str × Str)} (g : Lg N E) {n : Int} {st : Sst} (h : Ok n st) (hn : n + 400 < 2 ^ 40) {P : T × Sst → Prop}
    (q : ∀ d PL EL st', Mg d N (Aj E) PL EL → Ok (n + 400) st' → P (.fz d, st')) :
    Rn (callF tb pr (k + 8) ("_law_made", none) [.tok 0, lgD N E] st) P := by
  have h8 := g.l8
  have h64 := g.fe
  refine rn_fn (F.p _ _) F.law_made rfl ?_
  simp [flaw_made, us, usL, usB, usLB, usS, usO, frz_eq, ownT]
  refine lc_inv (fun i acc st' => ∃ E1, All2 SqP acc E1 ∧ E1.map norm = E.take i ∧ Ok (n + (3 * i : Nat)) st') ⟨[], .nil, rfl, h.mono (by omega)⟩ (fun i x acc st1 hx hI => ?_) (fun acc st1 hI => ?_)
  · obtain ⟨E1, ha, he, h1⟩ := hI
    obtain ⟨e, hxe, rfl⟩ := get_map hx
    have hi : i < E.length := (List.getElem?_eq_some_iff.mp hxe).1
    obtain ⟨_, _, ene, enn⟩ := g.pr e (List.mem_of_getElem? hxe)
    simp [pD, us, usL, usB, usLB, usS, usO, frz_eq, ownT]
    refine mixed_rn (k := k + 5) F.toCom (.inl rfl) h1 (by simp; omega) (by simp) fun ds st2 hp h2 => ?_
    simp
    have dss : ∃ e' : Str × Str, ds = [.str e'.1, .str e'.2] ∧ norm e' = e := by
      rcases perm_two hp with rfl | rfl
      · exact ⟨e, rfl, enn⟩
      · exact ⟨(e.2, e.1), rfl, by rw [norm_swap ene]; exact enn⟩
    obtain ⟨e', rfl, en⟩ := dss
    refine loose_strs (k := k + 5) F.toCom (.inr rfl) (fun x hx => ?_) (by simp) h2 (by simp; omega) fun d' st3 hd' h3 => ?_
    · simp at hx
      rcases hx with rfl | rfl
      · exact ⟨_, rfl⟩
      · exact ⟨_, rfl⟩
    · refine ⟨E1 ++ [e'], ha.app (.cons hd' .nil), ?_, h3.mono (by simp; omega)⟩
      rw [List.map_append, he, List.take_add_one, hxe]
      simp [en]
  · obtain ⟨E1, ha, he, h1⟩ := hI
    rw [List.length_map, List.take_length] at he
    rw [List.length_map] at h1
    have hal := ha.length
    have e1l : E1.length = E.length := by rw [← he, List.length_map]
    simp [us, usL, usB, usLB, usS, usO, frz_eq, ownT]
    refine ⟨fits_of (by omega), ?_⟩
    refine mixed_rn (k := k + 5) F.toCom (.inl rfl) h1 (by simp; omega) (by simp; omega) fun ds st2 hp h2 => ?_
    obtain ⟨PL, rfl, hPL⟩ := perm_map hp N rfl
    have pll := hPL.length_eq
    simp at h2
    simp
    refine loose_strs (k := k + 5) F.toCom (.inl rfl) (fun x hx => ?_) (by simp; omega) h2 (by omega) fun dp st3 hdp h3 => ?_
    · obtain ⟨s, _, rfl⟩ := List.mem_map.mp hx
      exact ⟨s, rfl⟩
    simp
    refine mixed_rn (k := k + 5) F.toCom (.inl rfl) h3 (by omega) (by omega) fun ds2 st4 hp2 h4 => ?_
    obtain ⟨E2, pE2, ha2⟩ := all2_perm hp2 E1 ha
    have hl2 := ha2.length
    have hl3 := pE2.length_eq
    simp
    refine loose_seq (k := k + 5) (R := fun x y => ∀ p : Str × Str, SqP x p → SqP y p) (c := 1) F.toCom (.inl rfl) (by omega) (fun x hx m s Q hm hm2 r => ?_) h4 (by omega) (fun ds3 d3 st5 hd3 ha3 h5 => ?_)
    · obtain ⟨i, hi⟩ := List.getElem?_of_mem hx
      obtain ⟨e, _, he⟩ := ha2.get hi
      refine loose_strs (k := k + 4) F.toCom he (fun x hx => ?_) (by simp) hm (by omega) fun d' st3 hd' h3 => ?_
      · simp at hx
        rcases hx with rfl | rfl
        · exact ⟨_, rfl⟩
        · exact ⟨_, rfl⟩
      · refine r _ _ (fun p hp => ?_) (h3.mono (by omega))
        have : p = e := SqP.inj he hp
        rw [this]
        exact hd'
    · have ha4 := all2_comp (U := SqP) (fun a b y r q => q b r) ha2 ha3
      have e2n : (E2.map norm).Perm E := by
        rw [← he]
        exact pE2.map norm
      obtain ⟨okg, haj⟩ := turned_ok g e2n hPL
      refine rn_pr (HG _) ?_
      show Rn (groundP [dp, d3] st5) _
      rw [groundP_ok hdp hd3 ha4 okg]
      simp
      exact q _ PL E2 _ ⟨rfl, okg, fun x => hPL.mem_iff, fun x _ y _ => haj x y, by omega, by omega⟩ (h5.mono (by omega))
end
end Ev
/-! EvFA -/
namespace Ev
open PySem PySem.Spec PyProof.Rows L2
section
variable {tb : Str × Option Str → Option FnI} {pr : PrimF} {k : Nat} {cs : List Str}
theorem same_str (C : Com tb pr cs) {a b : Str} (ha : Sok a) (hb : Sok b) {st : Sst} : callF tb pr (k + 1) ("_law_same", none) [.str a, .str b] st = some (.fz (.bl (decide (a = b))), st) := by
  refine rn_eq (rn_fn (C.p _ _) C.law_same rfl ?_)
  simp [flaw_same, us, usL, usB, usLB, usS, usO, frz_eq, ownT, isi_lt_str, isi_dict_str, isi_bool_str, isi_int_str, isi_str_str, isi_ltd_str, pEq_bl, pEq_str ha hb]
theorem same_strs (C : Com tb pr cs) {xs : List Str} (h : ∀ x ∈ xs, Sok x) (hl : xs.length ≤ 16777216) {st : Sst} : callF tb pr (k + 2) ("_law_same", none) [.lst (xs.map .str), .lst (xs.map .str)] st = some (.fz (.bl true), st) := by
  refine rn_eq (rn_fn (C.p _ _) C.law_same rfl ?_)
  simp [flaw_same, us, usL, usB, usLB, usS, usO, frz_eq, ownT, isi_lt_lst, isi_list_lst, isi_tuple_lst, pEq_bl, pEq_int]
  rw [show (xs.map ((fun a => D.tup [a, a]) ∘ D.str)) = xs.map fun x => D.tup [.str x, .str x] from rfl]
  refine lc_ofm (fun x => D.tup [.str x, .str x]) (fun _ => .bl true) (fun x hx => ?_) ?_
  · simp
    refine ⟨_, same_str C (h x hx) (h x hx), ?_⟩
    simp
  · simp only [List.length_map]
    refine ⟨fits_of hl, ?_⟩
    rw [rn_bools (p := fun _ => true)]
    simp
end
end Ev
/-! EvFB -/
namespace Gr
variable {α : Type} [DecidableEq α] {A : α → α → Prop}
/-- all hang together -/
theorem folds_all {l : List (α × α)} {c : α} {K : α → Prop} : ∀ {S : List α}, Folds A S l → (∀ x ∈ restS S l, x = c) → (∀ x ∈ S, ∀ y ∈ S, A x y → (K x ↔ K y)) → ∀ x ∈ S, (K x ↔ K c) := by
  induction l with
  | nil => intro S _ h1 _ x hx; rw [h1 x hx]
  | cons q l ih =>
    intro S f h1 hK x hx
    have ih' := ih (S := less S q.1) f.2 h1 (fun x hx y hy a => hK x (mem_less.mp hx).1 y (mem_less.mp hy).1 a)
    obtain ⟨⟨hp, ho, hpo, hf⟩, _⟩ := f
    by_cases z : x = q.1
    · subst z
      have : A q.2 q.1 := (hf q.1 hp (.inl rfl)).resolve_left fun e => hpo e.symm
      rw [← hK _ ho _ hp this]
      exact ih' _ (mem_less.mpr ⟨ho, fun e => hpo e.symm⟩)
    · exact ih' _ (mem_less.mpr ⟨hx, z⟩)
end Gr
namespace Ev
open PySem PySem.Spec PyProof.Rows L2
theorem arl_nodup {N : List Str} {E : List (Str × Str)} (g : Lg N E) {p : Str} : (arl E p).Nodup := by
  unfold arl
  rw [(srt_perm _ _).nodup_iff]
  unfold List.Nodup
  rw [List.pairwise_map]
  have un : (E.filter fun e => decide (p = e.1 ∨ p = e.2)).Pairwise (· ≠ ·) := List.Pairwise.filter _ g.un
  refine un.imp_of_mem fun {a b} ha hb hab z => hab ?_
  have key : ∀ e ∈ E.filter fun e => decide (p = e.1 ∨ p = e.2), e = norm ((if e.2 = p then e.1 else e.2), p) := fun e he => by
    obtain ⟨he, h2⟩ := List.mem_filter.mp he
    obtain ⟨_, _, h3, h4⟩ := g.pr e he
    simp at h2
    obtain ⟨a, b⟩ := e
    simp only at h2 h3 h4 ⊢
    by_cases y : b = p
    · subst y; simp [h4]
    · rcases h2 with h2 | h2
      · subst h2; rw [if_neg y, norm_swap (fun z => y z.symm), h4]
      · exact absurd h2.symm y
  rw [key a ha, key b hb, z]
theorem arl_le8 {N : List Str} {E : List (Str × Str)} (g : Lg N E) {p : Str} : (arl E p).length ≤ 8 :=
  Nat.le_trans (nodup_len (arl_nodup g) fun x hx => arl_sub g.gd hx) g.l8
def putL (kvs : List (Str × D)) (L : List Str) (d : D) : List (Str × D) := L.foldl (fun a x => sPut a x d) kvs
theorem putL_keys {L : List Str} {d : D} {x : Str} : ∀ {kvs : List (Str × D)}, x ∈ (putL kvs L d).map (·.1) ↔ x ∈ L ∨ x ∈ kvs.map (·.1) := by
  induction L with
  | nil => intro kvs; simp [putL]
  | cons y L ih =>
    intro kvs
    show x ∈ (putL (sPut kvs y d) L d).map (·.1) ↔ _
    rw [ih, sPut_keys, List.mem_cons]
    constructor
    · rintro (h | h | h)
      · exact .inl (.inr h)
      · exact .inl (.inl h)
      · exact .inr h
    · rintro ((h | h) | h)
      · exact .inr (.inl h)
      · exact .inl h
      · exact .inr (.inr h)
theorem sPut_len {kvs : List (Str × D)} {s : Str} {d : D} : (sPut kvs s d).length ≤ kvs.length + 1 := by
  unfold sPut
  split <;> simp
theorem putL_len {L : List Str} {d : D} : ∀ {kvs : List (Str × D)}, (putL kvs L d).length ≤ kvs.length + L.length := by
  induction L with
  | nil => intro kvs; simp [putL]
  | cons y L ih =>
    intro kvs
    have := ih (kvs := sPut kvs y d)
    have := sPut_len (kvs := kvs) (s := y) (d := d)
    show (putL (sPut kvs y d) L d).length ≤ _
    simp
    omega
theorem sPut_vals {Q : D → Prop} {kvs : List (Str × D)} {s : Str} {d : D} (h : ∀ p ∈ kvs, Q p.2) (hd : Q d) : ∀ p ∈ sPut kvs s d, Q p.2 := by
  unfold sPut
  split
  · intro p hp
    obtain ⟨q, hq, rfl⟩ := List.mem_map.mp hp
    split
    · exact hd
    · exact h q hq
  · intro p hp
    rcases List.mem_append.mp hp with hp | hp
    · exact h p hp
    · simp at hp; subst hp; exact hd
theorem putL_vals {Q : D → Prop} {L : List Str} {d : D} (hd : Q d) : ∀ {kvs : List (Str × D)}, (∀ p ∈ kvs, Q p.2) → ∀ p ∈ putL kvs L d, Q p.2 := by
  induction L with
  | nil => intro kvs h; exact h
  | cons y L ih => intro kvs h; exact ih (sPut_vals h hd)
theorem putAll_strs {L : List Str} {d : D} : ∀ {acc : List (Str × D)}, putAll (acc.map kD) (L.map fun x => .tup [.str x, d]) = some ((putL acc L d).map kD) := by
  induction L with
  | nil => intro acc; rfl
  | cons y L ih =>
    intro acc
    rw [List.map_cons]
    unfold putAll
    simp only [keysK_str, if_true, dPut_str, ih]
    rfl
theorem fold_puts {more : List (Str × D)} : ∀ {kvs : List (Str × D)}, (more.map kD).foldl (fun a p => dPut a p.1 p.2) (kvs.map kD) = (more.foldl (fun a p => sPut a p.1 p.2) kvs).map kD := by
  induction more with
  | nil => intro kvs; rfl
  | cons y L ih =>
    intro kvs
    rw [List.map_cons, List.foldl_cons, List.foldl_cons]
    rw [show (kD y).1 = .str y.1 from rfl, show (kD y).2 = y.2 from rfl, dPut_str, ih]
def updL (kvs more : List (Str × D)) : List (Str × D) := more.foldl (fun a p => sPut a p.1 p.2) kvs
theorem updL_keys {more : List (Str × D)} {x : Str} : ∀ {kvs : List (Str × D)}, x ∈ (updL kvs more).map (·.1) ↔ x ∈ more.map (·.1) ∨ x ∈ kvs.map (·.1) := by
  induction more with
  | nil => intro kvs; simp [updL]
  | cons y L ih =>
    intro kvs
    show x ∈ (updL (sPut kvs y.1 y.2) L).map (·.1) ↔ _
    rw [ih, sPut_keys, List.map_cons, List.mem_cons]
    constructor
    · rintro (h | h | h)
      · exact .inl (.inr h)
      · exact .inl (.inl h)
      · exact .inr h
    · rintro ((h | h) | h)
      · exact .inr (.inl h)
      · exact .inl h
      · exact .inr (.inr h)
theorem updL_len {more : List (Str × D)} : ∀ {kvs : List (Str × D)}, (updL kvs more).length ≤ kvs.length + more.length := by
  induction more with
  | nil => intro kvs; simp [updL]
  | cons y L ih =>
    intro kvs
    have := ih (kvs := sPut kvs y.1 y.2)
    have := sPut_len (kvs := kvs) (s := y.1) (d := y.2)
    show (updL (sPut kvs y.1 y.2) L).length ≤ _
    simp
    omega
theorem updL_vals {Q : D → Prop} {more : List (Str × D)} : ∀ {kvs : List (Str × D)}, (∀ p ∈ kvs, Q p.2) → (∀ p ∈ more, Q p.2) → ∀ p ∈ updL kvs more, Q p.2 := by
  induction more with
  | nil => intro kvs h _; exact h
  | cons y L ih => intro kvs h hm; exact ih (sPut_vals h (hm y (by simp))) fun p hp => hm p (by simp [hp])
end Ev
/-! EvFC -/
namespace Ev
open PySem PySem.Spec PyProof.Rows L2
section
variable {tb : Str × Option Str → Option FnI} {pr : PrimF} {k : Nat} {cs : List Str}
def moreL (E : List (Str × Str)) (kvs : List (Str × D)) (H : List Str) : List Str := H.flatMap fun one => (arl E one).filter fun o => !decide (o ∈ kvs.map (·.1))
theorem moreL_len {N : List Str} {E : List (Str × Str)} (g : Lg N E) {kvs : List (Str × D)} {H : List Str} : (moreL E kvs H).length ≤ H.length * 8 :=
  flat_len fun a _ => Nat.le_trans (List.length_filter_le _ _) (arl_le8 g)
theorem mem_more {N : List Str} {E : List (Str × Str)} (g : Lg N E) {kvs : List (Str × D)} {H : List Str} {x : Str} : x ∈ moreL E kvs H ↔ (∃ h ∈ H, Aj E h x) ∧ x ∉ kvs.map (·.1) := by
  unfold moreL
  rw [List.mem_flatMap]
  constructor
  · rintro ⟨a, ha, hx⟩
    obtain ⟨h1, h2⟩ := List.mem_filter.mp hx
    exact ⟨⟨a, ha, (mem_arl g.gd.ne).mp h1⟩, by simpa using h2⟩
  · rintro ⟨⟨a, ha, hx⟩, h2⟩
    exact ⟨a, ha, List.mem_filter.mpr ⟨(mem_arl g.gd.ne).mpr hx, by simpa using h2⟩⟩
def isInt (d : D) : Prop := ∃ i : Int, d = .int i
def ksS (kvs : List (Str × D)) : List Str := kvs.map (·.1)
structure FarI (N : List Str) (E : List (Str × Str)) (p : Str) (i : Nat) (kvs : List (Str × D)) (H : List Str) : Prop where
  lH : H.length ≤ 8 ^ i
  lk : kvs.length ≤ 2 * 8 ^ i
  vs : ∀ q ∈ kvs, isInt q.2
  hp : p ∈ ksS kvs
  hH : ∀ x ∈ H, x ∈ ksS kvs
  hN : ∀ x, x ∈ ksS kvs → x ∈ N
  cl : ∀ x y, x ∈ ksS kvs → x ∉ H → Aj E x y → y ∈ ksS kvs
  gr : (∀ x ∈ N, x ∈ ksS kvs) ∨ ∃ L : List Str, L.Nodup ∧ L.length = i + 1 ∧ ∀ x ∈ L, x ∈ ksS kvs
theorem FarI.zero {N : List Str} {E : List (Str × Str)} {p : Str} (hp : p ∈ N) : FarI N E p 0 [(p, .int 0)] [p] := by
  refine ⟨by simp, by simp, by simp [isInt], by simp [ksS], by simp [ksS], ?_, ?_, .inr ⟨[p], by simp, rfl, by simp [ksS]⟩⟩
  · intro x hx; simp [ksS] at hx; subst hx; exact hp
  · intro x y hx hx2; simp [ksS] at hx hx2; exact absurd hx hx2
theorem FarI.step {N : List Str} {E : List (Str × Str)} {p : Str} {i : Nat} {kvs : List (Str × D)} {H : List Str} (f : FarI N E p i kvs H) (g : Lg N E) (one : ∃ c l, Gr.Folds (Aj E) N l ∧ ∀ x ∈ Gr.restS N l, x = c) {d : Int} :
    FarI N E p (i + 1) (updL kvs (putL [] (moreL E kvs H) (.int d))) (moreL E kvs H) := by
  have km : ∀ x, x ∈ ksS (updL kvs (putL [] (moreL E kvs H) (.int d))) ↔ x ∈ moreL E kvs H ∨ x ∈ ksS kvs := fun x => by
    unfold ksS
    rw [updL_keys, putL_keys]
    simp
  have lm := moreL_len g (kvs := kvs) (H := H)
  have l1 := @updL_len (putL [] (moreL E kvs H) (.int d)) kvs
  have l2 := @putL_len (moreL E kvs H) (.int d) []
  have lH := f.lH
  have lk := f.lk
  have pw : 8 ^ (i + 1) = 8 ^ i * 8 := Nat.pow_succ ..
  simp at l2
  refine ⟨by omega, by omega, ?_, (km _).mpr (.inr f.hp), fun x hx => (km _).mpr (.inl hx), ?_, ?_, ?_⟩
  · exact updL_vals f.vs (putL_vals ⟨d, rfl⟩ (by simp))
  · intro x hx
    rcases (km _).mp hx with h | h
    · obtain ⟨⟨a, ha, haj⟩, _⟩ := (mem_more g).mp h
      rcases haj with z | z
      · exact (g.pr _ z).2.1
      · exact (g.pr _ z).1
    · exact f.hN x h
  · intro x y hx hx2 ha
    rw [km] at hx ⊢
    have hx := hx.resolve_left hx2
    by_cases hy : y ∈ ksS kvs
    · exact .inr hy
    · by_cases hxH : x ∈ H
      · exact .inl ((mem_more g).mpr ⟨⟨x, hxH, ha⟩, hy⟩)
      · exact .inr (f.cl x y hx hxH ha)
  · rcases f.gr with h | ⟨L, h1, h2, h3⟩
    · exact .inl fun x hx => (km x).mpr (.inr (h x hx))
    · cases hm : moreL E kvs H with
      | nil =>
        refine .inl fun x hx => ?_
        have key : ∀ x ∈ N, ∀ y ∈ N, Aj E x y → (x ∈ ksS kvs ↔ y ∈ ksS kvs) := by
          have half : ∀ x y, Aj E x y → x ∈ ksS kvs → y ∈ ksS kvs := fun x y ha hx => by
            by_cases hy : y ∈ ksS kvs
            · exact hy
            · by_cases hxH : x ∈ H
              · have := (mem_more g).mpr ⟨⟨x, hxH, ha⟩, hy⟩
                rw [hm] at this
                cases this
              · exact f.cl x y hx hxH ha
          intro x _ y _ ha
          exact ⟨half x y ha, half y x ha.symm⟩
        obtain ⟨c, l, hf, hc⟩ := one
        have := Gr.folds_all hf hc key
        rw [← hm, km]
        exact .inr ((this x hx).mpr ((this p (f.hN p f.hp)).mp f.hp))
      | cons y r =>
        have hy := (mem_more g).mp (show y ∈ moreL E kvs H by rw [hm]; simp)
        refine .inr ⟨y :: L, ?_, by simp [h2], fun x hx => ?_⟩
        · rw [List.nodup_cons]
          exact ⟨fun z => hy.2 (h3 y z), h1⟩
        · rw [← hm, km]
          rcases List.mem_cons.mp hx with rfl | hx
          · exact .inl (by rw [hm]; simp)
          · exact .inr (h3 x hx)
theorem FarI.done {N : List Str} {E : List (Str × Str)} {p : Str} {kvs : List (Str × D)} {H : List Str} (f : FarI N E p (N.length - 1) kvs H) (hp : p ∈ N) : ∀ x ∈ N, x ∈ ksS kvs := by
  rcases f.gr with h | ⟨L, h1, h2, h3⟩
  · exact h
  · intro x hx
    have hN := List.length_pos_of_mem hx
    by_cases z : x ∈ L
    · exact h3 x z
    · exfalso
      have := nodup_len (l' := x :: L) (l := N) (by rw [List.nodup_cons]; exact ⟨z, h1⟩) (fun y hy => by
        rcases List.mem_cons.mp hy with rfl | hy
        · exact hx
        · exact f.hN y (h3 y hy))
      simp at this
      omega
theorem far_rn (F : Flds tb pr cs) {N : List Str} {E : List (Str × Str)} (g : Lg N E) (one : ∃ c l, Gr.Folds (Aj E) N l ∧ ∀ x ∈ Gr.restS N l, x = c) {p : Str} (hp : p ∈ N) {st : Sst} :
    Rn (callF tb pr (k + 2) ("_law_far", none) [lgD N E, .str p] st) fun r => ∃ kvs : List (Str × D), r.1.er = .dct (kvs.map kD) ∧ r.2 = st ∧ (∀ q ∈ kvs, isInt q.2) ∧ ∀ x ∈ N, x ∈ ksS kvs := by
  have h8 := g.l8
  have sok := g.gd.so
  refine rn_fn (F.p _ _) F.law_far rfl ?_
  simp only [flaw_far]
  generalize hFN : (fun r : T × Sst => ∃ kvs : List (Str × D), r.1.er = .dct (kvs.map kD) ∧ r.2 = st ∧ (∀ q ∈ kvs, isInt q.2) ∧ ∀ x ∈ N, x ∈ ksS kvs) = FN
  simp [us, usL, usB, usLB, usS, usO, frz_eq, ownT]
  refine ⟨[(.str p, .int 0)], rfl, fits_of (by decide), ?_⟩
  rw [show rangeD 1 (N.length : Int) = rangeD ((1 : Nat) : Int) (N.length : Int) from rfl, range_from (by omega) (by omega)]
  simp
  refine for_inv (fun i env st' => st' = st ∧ ∃ (kvs : List (Str × D)) (H : List Str) (t4 : T) (v2 v5 v6 v7 : Option T), env = [some (.fz (lgD N E)), some (.fz (.str p)), v2, some (.od (kvs.map kD)), some t4, v5, v6, v7] ∧ t4.er = .lst (H.map .str) ∧ FarI N E p i kvs H) ⟨rfl, [(p, .int 0)], [p], _, _, _, _, _, rfl, rfl, FarI.zero hp⟩ (fun i x env st4 hx hI => ?_) (fun env st4 hI => ?_)
  · obtain ⟨rfl, kvs, H, t4, v2, v5, v6, v7, rfl, ht, fi⟩ := hI
    obtain ⟨j, hj, rfl⟩ := get_map hx
    obtain ⟨hjl, hj⟩ := List.getElem?_eq_some_iff.mp hj
    rw [List.getElem_range] at hj
    subst hj
    rw [List.length_range] at hjl
    have pw : 8 ^ i ≤ 8 ^ 6 := Nat.pow_le_pow_right (by decide) (by omega)
    have lH := fi.lH
    have lk := fi.lk
    have lm := moreL_len g (kvs := kvs) (H := H)
    have nxt := fun d : Int => fi.step g one (d := d)
    simp [us, usL, usB, usLB, usS, usO, frz_eq, ownT, ht]
    refine ⟨fits_of (by decide), for_inv (fun j env st' => st' = st4 ∧ ∃ v6, env = [some (.fz (lgD N E)), some (.fz (.str p)), some (.fz (.int (1 + i))), some (.od (kvs.map kD)), some (.fz (.lst (H.map .str))), some (.ol ((moreL E kvs (H.take j)).map .str)), v6, v7]) ⟨rfl, _, rfl⟩ (fun j x env st5 hx hJ => ?_) (fun env st5 hJ => ?_)⟩
    · obtain ⟨rfl, v6, rfl⟩ := hJ
      obtain ⟨o, ho, rfl⟩ := get_map hx
      have hoN := fi.hN _ (fi.hH _ (List.mem_of_getElem? ho))
      have lmj := moreL_len g (kvs := kvs) (H := H.take j)
      have lmo := arl_le8 g (p := o)
      rw [List.length_take] at lmj
      simp [us, usL, usB, usLB, usS, usO, frz_eq, ownT]
      refine ⟨_, around_eq F.toCom g.gd (sok o hoN), ?_⟩
      simp
      refine lc_of D.str (fun x => !decide (x ∈ kvs.map (·.1))) D.str (fun x hx => ?_) ?_
      · simp [in_dct]
      · have lf := List.length_filter_le (fun x => !decide (x ∈ kvs.map (·.1))) (arl E o)
        have tk : moreL E kvs (H.take (j + 1)) = moreL E kvs (H.take j) ++ (arl E o).filter fun x => !decide (x ∈ kvs.map (·.1)) := take_flat ho
        rw [tk]
        generalize (arl E o).filter (fun x => !decide (x ∈ kvs.map (·.1))) = NW at *
        generalize moreL E kvs (H.take j) = OL at *
        simp
        exact ⟨fits_of (by omega), fits_of (by omega)⟩
    · obtain ⟨rfl, v6, rfl⟩ := hJ
      rw [List.length_map, List.take_length]
      have nx := nxt (1 + i)
      generalize moreL E kvs H = MM at *
      have lp := @putL_len MM (.int (1 + i)) []
      have hbd : fits MM.length = true → biD .dict [.lst (MM.map fun x => D.tup [.str x, .int (1 + i)])] = some (.dct ((putL [] MM (.int (1 + i))).map kD)) := fun hf => by
        show (if fits _ = true then (putAll [] _).map D.dct else none) = _
        rw [List.length_map, if_pos hf, show putAll [] (MM.map fun x => D.tup [.str x, .int (1 + i)]) = _ from putAll_strs (acc := [])]
        rfl
      simp at lp
      simp [us, usL, usB, usLB, usS, usO, frz_eq, ownT]
      refine lc_ofm D.str (fun x => .tup [.str x, .int (1 + i)]) (fun x hx => ?_) ?_
      · simp
        exact fits_of (by decide)
      · have fM : fits MM.length = true := fits_of (by omega)
        refine ⟨by rw [List.length_map]; exact fM, _, hbd fM, _, rfl, ⟨fun a b hab => ?_, fits_of (by rw [List.length_map]; omega)⟩, rfl, updL kvs (putL [] MM (.int (1 + i))), MM, _, ⟨fold_puts, rfl⟩, rfl, nx⟩
        obtain ⟨q, _, hq⟩ := List.mem_map.mp hab
        cases hq
        exact keysK_str
  · obtain ⟨rfl, kvs, H, t4, v2, v5, v6, v7, rfl, ht, fi⟩ := hI
    rw [List.length_map, List.length_range] at fi
    have := fi.done hp
    simp [us, usL, usB, usLB, usS, usO, frz_eq, ownT]
    subst hFN
    exact ⟨kvs, rfl, rfl, fi.vs, this⟩
end
end Ev
/-! EvFD -/
namespace Gr
variable {α : Type} [DecidableEq α] {A : α → α → Prop}
theorem restS_filter {l : List (α × α)} : ∀ {S : List α}, restS S l = S.filter fun x => !decide (x ∈ l.map (·.1)) := by
  induction l with
  | nil => intro S; exact (List.filter_eq_self.mpr fun _ _ => by simp).symm
  | cons q l ih =>
    intro S
    show restS (less S q.1) l = _
    rw [ih]
    unfold less
    rw [List.filter_filter]
    congr 1
    funext x
    by_cases h : x = q.1 <;> simp [h]
end Gr
namespace Ev
open PySem PySem.Spec PyProof.Rows L2
structure Rr (N : List Str) (E : List (Str × Str)) (l : List (Str × Str)) (w : Str) : Prop where
  fo : Gr.Folds (Aj E) N l
  re : Gr.restS N l = [w]
  ln : l.length + 1 = N.length
theorem rr_of {N : List Str} {E : List (Str × Str)} (g : Lg N E) (one : ∃ c l, Gr.Folds (Aj E) N l ∧ ∀ x ∈ Gr.restS N l, x = c) {l : List (Str × Str)} (hf : Gr.Folds (Aj E) N l) (hs : ∀ p o, ¬ Gr.IsFold (Aj E) (Gr.restS N l) p o) : ∃ w, Rr N E l w := by
  obtain ⟨c, l1, f1, h1⟩ := one
  have h := Gr.one_rest (fun _ _ => Aj.symm) f1 h1 hf hs
  obtain ⟨x, hx⟩ := List.exists_mem_of_ne_nil _ g.ne
  have m := Gr.shade_mem (fun _ _ => Aj.symm) hf hx
  have nd := Gr.restS_nodup (l := l) g.nd
  have ln := Gr.folds_lenE g.nd hf
  refine ⟨Gr.shade l c, ?_⟩
  cases hr : Gr.restS N l with
  | nil => rw [hr] at m; cases m
  | cons a r =>
    rw [hr] at h nd ln
    cases r with
    | nil =>
      have := h a (by simp)
      subst this
      exact ⟨hf, hr, by simpa [hr] using ln⟩
    | cons b r =>
      have e1 := h a (by simp)
      have e2 := h b (by simp)
      rw [e1, ← e2] at nd
      simp at nd
theorem Rr.in {N : List Str} {E : List (Str × Str)} {l : List (Str × Str)} {w : Str} (r : Rr N E l w) : w ∈ N := Gr.restS_sub (l := l) (by rw [r.re]; simp)
theorem Rr.sh {N : List Str} {E : List (Str × Str)} {l : List (Str × Str)} {w : Str} (r : Rr N E l w) {x : Str} (hx : x ∈ N) : Gr.shade l x = w := by
  have := Gr.shade_mem (fun _ _ => Aj.symm) r.fo hx
  rw [r.re] at this
  simpa using this
section
variable {tb : Str × Option Str → Option FnI} {pr : PrimF} {k : Nat} {cs : List Str}
theorem loose_pairs (C : Com tb pr cs) {l : List (Str × Str)} (hl : l.length ≤ 1000000) {n : Int} {st : Sst} (h : Ok n st) (hn : n + (l.length + 1 : Nat) < 2 ^ 40) {P : T × Sst → Prop}
    (q : ∀ d' st', PL d' l → Ok (n + (l.length + 1 : Nat)) st' → P (.fz d', st')) : Rn (callF tb pr (k + 3) ("_law_loose", none) [.tok 0, .lst (l.map pD)] st) P := by
  refine loose_seq (k := k + 1) (R := fun x y => ∀ p : Str × Str, SqP x p → SqP y p) (c := 1) C (.inl rfl) (by rw [List.length_map]; omega) (fun x hx m s Q hm hm2 r => ?_) h (by rw [List.length_map]; omega) (fun ds3 d3 st5 hd3 ha3 h5 => ?_)
  · obtain ⟨e, _, rfl⟩ := List.mem_map.mp hx
    refine loose_strs (k := k) C (.inr rfl) (fun x hx => ?_) (by simp) hm (by omega) fun d' st3 hd' h3 => ?_
    · simp at hx
      rcases hx with rfl | rfl
      · exact ⟨_, rfl⟩
      · exact ⟨_, rfl⟩
    · refine r _ _ (fun p hp => ?_) (h3.mono (by omega))
      rw [show p = e from SqP.inj SqP.pD hp]
      exact hd'
  · refine q d3 st5 ⟨ds3, hd3, ?_⟩ (h5.mono (by rw [List.length_map]; omega))
    exact all2_comp (U := SqP) (fun a b y r q => q b r) (All2.ofMap (f := pD) (R := SqP) (bs := l) fun _ _ => SqP.pD) ha3
def intAt (kvs : List (Str × D)) (s : Str) : Int := match kvs.lookup s with
  | some (.int i) => i
  | _ => 0
theorem intAt_eq {kvs : List (Str × D)} (h : ∀ q ∈ kvs, isInt q.2) {s : Str} (hs : s ∈ ksS kvs) : kvs.lookup s = some (.int (intAt kvs s)) := by
  obtain ⟨d, h1, h2⟩ := lookup_mem hs
  obtain ⟨i, hi⟩ := h _ h2
  simp only at hi
  subst hi
  unfold intAt
  rw [h1]
theorem isD_1 {st : Sst} {e : Int × Str} : subS st (isD e) (.int 1) = some (.str e.2) := by
  unfold isD
  simp
theorem run_right_rn (F : Flds tb pr cs) (HG : ∀ k, pr (k + 6) ("Ground", some "__init__") = some groundP) {N : List Str} {E : List (Str × Str)} (g : Lg N E) (one : ∃ c l, Gr.Folds (Aj E) N l ∧ ∀ x ∈ Gr.restS N l, x = c)
    {l : List (Str × Str)} {w : Str} (r : Rr N E l w) {gm : D} {PG : List Str} {EG : List (Str × Str)} (m : Mg gm N (Aj E) PG EG) {n : Int} {st : Sst} (h : Ok n st) (hn : n + 100 < 2 ^ 40) {P : T × Sst → Prop}
    (q : ∀ st', Ok (n + 100) st' → P (.fz (.bl true), st')) :
    Rn (callF tb pr (k + 14) ("_law_run_right", none) [.tok 0, lgD N E, gm, .lst (l.map pD)] st) P := by
  have h8 := g.l8
  have sok := g.gd.so
  have wN := r.in
  have sw := sok w wN
  have sh := fun {x} hx => r.sh (x := x) hx
  have ln := r.ln
  have lok : ∀ e ∈ l, Pok e := fun e he => ⟨sok _ (Gr.folds_in r.fo e he).1, sok _ (Gr.folds_in r.fo e he).2⟩
  have re := r.re
  rw [Gr.restS_filter] at re
  refine rn_fn (F.p _ _) F.law_run_right rfl ?_
  simp [flaw_run_right, us, usL, usB, usLB, usS, usO, frz_eq, ownT]
  refine lc_of D.str (fun x => !decide (x ∈ l.map (·.1))) D.str (fun x hx => ?_) ?_
  · simp
    refine lc_ofm pD (fun e => .str e.1) (fun e he => ?_) ?_
    · simp [pD_0]
    · have : l.map (fun e => D.str e.1) = (l.map (·.1)).map .str := by rw [List.map_map]; rfl
      simp only [this, List.length_map]
      refine ⟨fits_of (by omega), _, in_strs (sok x hx) (fun s hs => ?_), ?_⟩
      · obtain ⟨e, he, rfl⟩ := List.mem_map.mp hs
        exact (lok e he).1
      · cases hd : decide (x ∈ l.map (·.1)) <;> simp_all
  · simp only [re]
    refine ⟨fits_of (by simp), _, atI_0, ?_⟩
    refine lc_of D.str (fun x => decide (x ≠ w)) D.str (fun x hx => ?_) ?_
    · simp [pEq_str (sok x hx) sw]
    have oS : ∀ x ∈ N.filter fun x => decide (x ≠ w), x ∈ N := fun x hx => (List.mem_filter.mp hx).1
    have oW : ∀ x ∈ N.filter fun x => decide (x ≠ w), x ≠ w := fun x hx => by simpa using (List.mem_filter.mp hx).2
    have oL := List.length_filter_le (fun x => decide (x ≠ w)) N
    generalize N.filter (fun x => decide (x ≠ w)) = OT at *
    simp only [List.length_map]
    refine ⟨fits_of (by omega), fits_of (by decide), _, pEq_strs (fun e he => sok _ (oS e he)), fun _ => q _ (h.mono (by omega)), fun hne => ?_⟩
    simp at hne
    refine pick_rn (k := k + 11) F.toCom h (by omega) (by simpa using hne) (by rw [List.length_map]; omega) fun d st1 hd h1 => ?_
    obtain ⟨pl, hpl, rfl⟩ := List.mem_map.mp hd
    refine draw_rn (k := k + 12) F.toCom h1 (by omega) (by omega) (by omega) fun wy st2 _ _ h2 => ?_
    have two : 2 ≤ N.length := by
      have := nodup_len (l' := [pl, w]) (l := N) (by simp [oW pl hpl]) (fun x hx => by
        simp at hx
        rcases hx with rfl | rfl
        · exact oS _ hpl
        · exact wN)
      simpa using this
    have plN := oS pl hpl
    have plw := oW pl hpl
    clear hd hpl
    rw [show rangeD 1 (N.length : Int) = rangeD ((1 : Nat) : Int) (N.length : Int) from rfl, range_from (by omega) (by omega)]
    simp only [rn_some]
    refine for_inv (fun i env st' => ∃ (gd pl x : Str) (v7 v10 v11 v12 v13 v14 v15 : Option T), env = [some (.fz (.tok 0)), some (.fz (lgD N E)), some (.fz gm), some (.fz (.lst (l.map pD))), some (.fz (.int ((N.length - 1 - i : Nat) : Int))), some (.fz (.str gd)), some (.fz (.lst (OT.map .str))), v7, some (.fz (.str pl)), some (.fz (.int wy)), v10, v11, v12, v13, v14, v15] ∧ i + 1 < N.length ∧ gd ∈ N ∧ pl ∈ N ∧ x ∈ N ∧ Gr.Nr (Aj E) x pl ∧ gd = Gr.shade (l.take (N.length - 1 - i)) x ∧ Ok (n + 2 + (11 * i : Nat)) st')
      ⟨w, pl, pl, none, none, none, none, none, none, none, by rw [show N.length - 1 - 0 = l.length from by omega], by omega, wN, plN, plN, .inl rfl, ?_, h2.mono (by omega)⟩ (fun i x env st4 hx hI => ?_) (fun env st4 hI => ?_)
    · rw [Nat.sub_zero, show N.length - 1 = l.length from by omega, List.take_length, sh plN]
    · obtain ⟨gd, p, x0, v7, v10, v11, v12, v13, v14, v15, rfl, hi, gN, pN, xN, hnr, hgd, h4⟩ := hI
      obtain ⟨j, hj, rfl⟩ := get_map hx
      clear hx hj
      obtain ⟨L, hL⟩ : ∃ L, N.length - 1 - i = L + 1 := ⟨N.length - 2 - i, by omega⟩
      rw [hL] at hgd
      rw [hL, show N.length - 1 - (i + 1) = L from by omega]
      have hz : ((L + 1 : Nat) : Int) - 1 = (L : Int) := by omega
      generalize ((L + 1 : Nat) : Int) = z at *
      have hshd := fun {k : Nat} {st : Sst} => @law_shadow_eq tb pr k cs F l lok L p (sok p pN) st
      have dueN : Gr.shade (l.take L) p ∈ N := Gr.restS_sub (l := l.take L) (Gr.shade_mem (fun _ _ => Aj.symm) (Gr.folds_take r.fo L) pN)
      have near : Gr.Nr (Aj E) gd (Gr.shade (l.take L) p) := by
        rw [hgd]
        exact Gr.shade_close (fun _ _ => Aj.symm) r.fo xN pN hnr L
      have fin0 : L = 0 → Gr.shade (l.take L) p = p := fun z => by rw [z]; rfl
      have flw := fun {st : Sst} {d : D} (hd : PL d l) => @follow_eq tb pr k cs F HG gm N PG (Aj E) EG m d l hd r.fo L (by omega) p pN st
      have shw := fun {st : Sst} => @shadow_eq tb pr (k + 1) cs F HG gm N PG (Aj E) EG m _ l PL.lst r.fo L (by omega) p pN st
      generalize hdue : Gr.shade (l.take L) p = due at *
      simp [us, usL, usB, usLB, usS, usO, frz_eq, ownT, hz]
      refine ⟨_, hshd, ?_⟩
      simp [us, usL, usB, usLB, usS, usO, frz_eq, ownT]
      refine loose_pairs (k := k + 10) F.toCom (by omega) h4 (by omega) fun d' st5 hd' h5 => ?_
      simp [us, usL, usB, usLB, usS, usO, frz_eq, ownT]
      have sd := sok due dueN
      have sg := sok gd gN
      have spp := sok p pN
      have same := fun {st : Sst} => @same_strs tb pr (k + 11) cs F.toCom [due, due] (by simp [sd]) (by simp) st
      refine ⟨_, flw hd', _, shw, fits_of (by decide), _, same, ?_⟩
      have inA : ∀ x ∈ arl E gd, Sok x := fun x hx => sok x (arl_sub g.gd hx)
      have lA := arl_le8 g (p := p)
      have badd : binD .Add (.lst [.str p]) (.lst ((arl E p).map .str)) = some (.lst ((p :: arl E p).map .str)) := by
        rw [bin_addL, if_pos (fits_of (by simp; omega))]; rfl
      obtain ⟨⟨t12, s12⟩, efar, kvs, ht, hs12, hv, hk⟩ := far_rn (k := k + 11) F g one dueN (st := st5)
      simp only at ht hs12
      subst hs12
      simp [us, usL, usB, usLB, usS, usO, frz_eq, ownT, pEq_str sd sg]
      refine ⟨fun hne => ⟨_, around_eq F.toCom g.gd sg, _, in_strs sd inA, fun ha => ?_, fun _ => ?_⟩, fun he => ?_⟩
      · exfalso
        have := near.resolve_left fun z => hne z.symm
        rw [← mem_arl g.gd.ne] at this
        simp [this] at ha
      all_goals
        refine ⟨_, pEq_str sd spp, fun he2 => q _ (h5.mono (by omega)), fun hne2 => ⟨fits_of (by decide), _, around_eq F.toCom g.gd spp, _, badd, _, it_ofL, ?_⟩⟩
        have hne2 : due ≠ p := by simpa using hne2
        have hL0 : L ≠ 0 := fun z => hne2 (fin0 z)
        refine lc_of D.str (fun x => decide (x ≠ due)) D.str (fun x hx => ?_) ?_
        · have : Sok x := by
            rcases List.mem_cons.mp hx with rfl | hx
            · exact spp
            · exact sok x (arl_sub g.gd hx)
          simp [pEq_str this sd]
        have sP : p ∈ (p :: arl E p).filter fun x => decide (x ≠ due) := List.mem_filter.mpr ⟨by simp, by simp [hne2.symm]⟩
        have sN : ∀ x ∈ (p :: arl E p).filter fun x => decide (x ≠ due), x ∈ N ∧ Gr.Nr (Aj E) p x := fun x hx => by
          rcases List.mem_cons.mp (List.mem_filter.mp hx).1 with rfl | hx
          · exact ⟨pN, .inl rfl⟩
          · exact ⟨arl_sub g.gd hx, .inr ((mem_arl g.gd.ne).mp hx)⟩
        have sL : ((p :: arl E p).filter fun x => decide (x ≠ due)).length ≤ 9 := by
          refine Nat.le_trans (List.length_filter_le _ _) ?_
          rw [List.length_cons]; omega
        generalize (p :: arl E p).filter (fun x => decide (x ≠ due)) = SS at *
        simp only [List.length_map]
        refine ⟨fits_of (by omega), _, efar, _, pEq_int, fun _ => ?_, fun _ => ?_⟩
        · refine pick_rn (k := k + 11) F.toCom h5 (by omega) (by simpa using List.ne_nil_of_mem sP) (by rw [List.length_map]; omega) fun d st6 hd h6 => ?_
          obtain ⟨s, hs, rfl⟩ := List.mem_map.mp hd
          exact ⟨due, s, ⟨rfl, rfl⟩, by omega, dueN, (sN s hs).1, p, pN, (sN s hs).2, hdue.symm, h6.mono (by omega)⟩
        · have hlk : ∀ s ∈ SS, kvs.lookup s = some (.int (intAt kvs s)) := fun s hs => intAt_eq hv (hk s (sN s hs).1)
          refine lc_ofm D.str (fun s => isD (-(intAt kvs s), s)) (fun s hs => ?_) ?_
          · simp [ht, hlk s hs, isD]
            exact fits_of (by decide)
          · rw [show SS.map (fun s => isD (-(intAt kvs s), s)) = (SS.map fun s => (-(intAt kvs s), s)).map isD from by rw [List.map_map]; rfl]
            have hp := srt_perm isD (SS.map fun s => (-(intAt kvs s), s))
            have hs := sort_is (E := SS.map fun s => (-(intAt kvs s), s)) (by rw [List.length_map]; omega)
            have hm : ∀ e ∈ srt isD (SS.map fun s => (-(intAt kvs s), s)), e.2 ∈ SS := fun e he => by
              obtain ⟨s, hs, rfl⟩ := List.mem_map.mp (hp.mem_iff.mp he)
              exact hs
            have hl := hp.length_eq
            rw [List.length_map] at hl
            simp only [hs, List.length_map, rn_some]
            refine ⟨fits_of (by omega), ?_⟩
            generalize srt isD (SS.map fun s => (-(intAt kvs s), s)) = QQ at *
            cases QQ with
            | nil =>
              have := List.length_pos_of_mem sP
              simp at hl
              omega
            | cons e QQ =>
              have me := hm e (by simp)
              refine ⟨_, atI_0, _, isD_1, due, e.2, ⟨rfl, rfl⟩, by omega, dueN, (sN _ me).1, p, pN, (sN _ me).2, hdue.symm, h5.mono (by omega)⟩
    · obtain ⟨gd, pl, x0, v7, v10, v11, v12, v13, v14, v15, rfl, hi, _⟩ := hI
      rw [List.length_map, List.length_range] at hi
      omega
end
end Ev
/-! LawT -/
namespace Lw
open PySem PySem.Spec PyProof.Rows L2 Ev
def top (i : Nat) : Stmt := PySem.Challenge.pw_runaways_k33_whole_the_walkers_rule.main.body.getD i (.Pass ⟨0, 0, 0, 0⟩)
def f0 : He.DefD := ⟨("is_list", none), "is_list", "is_list", defArgs (top 2), defBody (top 2), defScope (top 2), [], []⟩
def f1 : He.DefD := ⟨("is_whole", none), "is_whole", "is_whole", defArgs (top 3), defBody (top 3), defScope (top 3), [], []⟩
def f2 : He.DefD := ⟨("is_number", none), "is_number", "is_number", defArgs (top 4), defBody (top 4), defScope (top 4), [], []⟩
def f3 : He.DefD := ⟨("is_row", none), "is_row", "is_row", defArgs (top 5), defBody (top 5), defScope (top 5), [], []⟩
def f4 : He.DefD := ⟨("is_name", none), "is_name", "is_name", defArgs (top 6), defBody (top 6), defScope (top 6), [], []⟩
def f5 : He.DefD := ⟨("is_index", none), "is_index", "is_index", defArgs (top 7), defBody (top 7), defScope (top 7), [], []⟩
def f6 : He.DefD := ⟨("BadPlaces", some "__init__"), "__init__", "BadPlaces.__init__", defArgs (inClass (top 10) 0), defBody (inClass (top 10) 0), defScope (inClass (top 10) 0), [], []⟩
def f7 : He.DefD := ⟨("BadPaths", some "__init__"), "__init__", "BadPaths.__init__", defArgs (inClass (top 11) 0), defBody (inClass (top 11) 0), defScope (inClass (top 11) 0), [], []⟩
def f8 : He.DefD := ⟨("BadGround", some "__init__"), "__init__", "BadGround.__init__", defArgs (inClass (top 12) 0), defBody (inClass (top 12) 0), defScope (inClass (top 12) 0), [], []⟩
def f9 : He.DefD := ⟨("BadPlace", some "__init__"), "__init__", "BadPlace.__init__", defArgs (inClass (top 13) 0), defBody (inClass (top 13) 0), defScope (inClass (top 13) 0), [], []⟩
def f10 : He.DefD := ⟨("BadFolds", some "__init__"), "__init__", "BadFolds.__init__", defArgs (inClass (top 14) 0), defBody (inClass (top 14) 0), defScope (inClass (top 14) 0), [], []⟩
def f11 : He.DefD := ⟨("BadLevel", some "__init__"), "__init__", "BadLevel.__init__", defArgs (inClass (top 15) 0), defBody (inClass (top 15) 0), defScope (inClass (top 15) 0), [], []⟩
def f12 : He.DefD := ⟨("first_bad_place", none), "first_bad_place", "first_bad_place", defArgs (top 17), defBody (top 17), defScope (top 17), [], []⟩
def f13 : He.DefD := ⟨("Ground", some "__init__"), "__init__", "Ground.__init__", defArgs (inClass (top 18) 0), defBody (inClass (top 18) 0), defScope (inClass (top 18) 0), [], []⟩
def f14 : He.DefD := ⟨("Ground", some "is_pair"), "is_pair", "Ground.is_pair", defArgs (inClass (top 18) 1), defBody (inClass (top 18) 1), defScope (inClass (top 18) 1), [], []⟩
def f15 : He.DefD := ⟨("Ground", some "places"), "places", "Ground.places", defArgs (inClass (top 18) 2), defBody (inClass (top 18) 2), defScope (inClass (top 18) 2), [], []⟩
def f16 : He.DefD := ⟨("Ground", some "paths"), "paths", "Ground.paths", defArgs (inClass (top 18) 3), defBody (inClass (top 18) 3), defScope (inClass (top 18) 3), [], []⟩
def f17 : He.DefD := ⟨("Ground", some "around"), "around", "Ground.around", defArgs (inClass (top 18) 4), defBody (inClass (top 18) 4), defScope (inClass (top 18) 4), [], []⟩
def f18 : He.DefD := ⟨("Ground", some "__eq__"), "__eq__", "Ground.__eq__", defArgs (inClass (top 18) 5), defBody (inClass (top 18) 5), defScope (inClass (top 18) 5), [], []⟩
def f19 : He.DefD := ⟨("is_place", none), "is_place", "is_place", defArgs (top 19), defBody (top 19), defScope (top 19), [], []⟩
def f20 : He.DefD := ⟨("check_place", none), "check_place", "check_place", defArgs (top 20), defBody (top 20), defScope (top 20), [], []⟩
def f21 : He.DefD := ⟨("check_ground", none), "check_ground", "check_ground", defArgs (top 21), defBody (top 21), defScope (top 21), [], []⟩
def f22 : He.DefD := ⟨("without_of", none), "without_of", "without_of", defArgs (top 22), defBody (top 22), defScope (top 22), [], []⟩
def f23 : He.DefD := ⟨("holds", none), "holds", "holds", defArgs (top 24), defBody (top 24), defScope (top 24), [], []⟩
def f24 : He.DefD := ⟨("folds_of", none), "folds_of", "folds_of", defArgs (top 25), defBody (top 25), defScope (top 25), [], []⟩
def f25 : He.DefD := ⟨("gone_through", none), "gone_through", "gone_through", defArgs (top 26), defBody (top 26), defScope (top 26), [], []⟩
def f26 : He.DefD := ⟨("rest_of", none), "rest_of", "rest_of", defArgs (top 27), defBody (top 27), defScope (top 27), [], []⟩
def f27 : He.DefD := ⟨("shade", none), "shade", "shade", defArgs (top 28), defBody (top 28), defScope (top 28), [], []⟩
def f28 : He.DefD := ⟨("check_level", none), "check_level", "check_level", defArgs (top 29), defBody (top 29), defScope (top 29), [], []⟩
def f29 : He.DefD := ⟨("shadow", none), "shadow", "shadow", defArgs (top 30), defBody (top 30), defScope (top 30), [], []⟩
def f30 : He.DefD := ⟨("follow", none), "follow", "follow", defArgs (top 31), defBody (top 31), defScope (top 31), [], []⟩
def f31 : He.DefD := ⟨("_law_stream", none), "_law_stream", "_law_stream", defArgs (top 33), defBody (top 33), defScope (top 33), [], []⟩
def f32 : He.DefD := ⟨("_law_draw", none), "_law_draw", "_law_draw", defArgs (top 34), defBody (top 34), defScope (top 34), [], []⟩
def f33 : He.DefD := ⟨("_law_pick", none), "_law_pick", "_law_pick", defArgs (top 35), defBody (top 35), defScope (top 35), [], []⟩
def f34 : He.DefD := ⟨("_law_mixed", none), "_law_mixed", "_law_mixed", defArgs (top 36), defBody (top 36), defScope (top 36), [], []⟩
def f35 : He.DefD := ⟨("_law_same", none), "_law_same", "_law_same", defArgs (top 37), defBody (top 37), defScope (top 37), [], []⟩
def f36 : He.DefD := ⟨("_law_loose", none), "_law_loose", "_law_loose", defArgs (top 38), defBody (top 38), defScope (top 38), [], []⟩
def f37 : He.DefD := ⟨("_law_names", none), "_law_names", "_law_names", defArgs (top 39), defBody (top 39), defScope (top 39), [], []⟩
def f38 : He.DefD := ⟨("_law_around", none), "_law_around", "_law_around", defArgs (top 40), defBody (top 40), defScope (top 40), [], []⟩
def f39 : He.DefD := ⟨("_law_folds", none), "_law_folds", "_law_folds", defArgs (top 41), defBody (top 41), defScope (top 41), [], []⟩
def f40 : He.DefD := ⟨("_law_less", none), "_law_less", "_law_less", defArgs (top 42), defBody (top 42), defScope (top 42), [], []⟩
def f41 : He.DefD := ⟨("_law_all_folds", none), "_law_all_folds", "_law_all_folds", defArgs (top 43), defBody (top 43), defScope (top 43), [], []⟩
def f42 : He.DefD := ⟨("_law_down", none), "_law_down", "_law_down", defArgs (top 44), defBody (top 44), defScope (top 44), [], []⟩
def f43 : He.DefD := ⟨("_law_shadow", none), "_law_shadow", "_law_shadow", defArgs (top 45), defBody (top 45), defScope (top 45), [], []⟩
def f44 : He.DefD := ⟨("_law_folding", none), "_law_folding", "_law_folding", defArgs (top 46), defBody (top 46), defScope (top 46), [], []⟩
def f45 : He.DefD := ⟨("_law_far", none), "_law_far", "_law_far", defArgs (top 47), defBody (top 47), defScope (top 47), [], []⟩
def f46 : He.DefD := ⟨("_law_made", none), "_law_made", "_law_made", defArgs (top 48), defBody (top 48), defScope (top 48), [], []⟩
def f47 : He.DefD := ⟨("_law_run_right", none), "_law_run_right", "_law_run_right", defArgs (top 49), defBody (top 49), defScope (top 49), [], []⟩
def f48 : He.DefD := ⟨("law", none), "law", "law", defArgs (top 50), defBody (top 50), defScope (top 50), [], []⟩
def fn : List He.DefD := ([f0, f1, f2, f3, f4, f5, f6, f7] : List (He.DefD)) ++ ([f8, f9, f10, f11, f12, f13, f14, f15] : List (He.DefD)) ++ ([f16, f17, f18, f19, f20, f21, f22, f23] : List (He.DefD)) ++ ([f24, f25, f26, f27, f28, f29, f30, f31] : List (He.DefD)) ++ ([f32, f33, f34, f35, f36, f37, f38, f39] : List (He.DefD)) ++ ([f40, f41, f42, f43, f44, f45, f46, f47] : List (He.DefD)) ++ ([f48] : List (He.DefD))
def fa : List He.Fa := ([.glo "is_list", .glo "is_whole", .glo "is_number", .glo "is_row", .glo "is_name", .glo "is_index", .glo "first_bad_place", .glo "is_place"] : List (He.Fa)) ++ ([.glo "check_place", .glo "check_ground", .glo "without_of", .glo "holds", .glo "folds_of", .glo "gone_through", .glo "rest_of", .glo "shade"] : List (He.Fa)) ++ ([.glo "check_level", .glo "shadow", .glo "follow", .glo "_law_stream", .glo "_law_draw", .glo "_law_pick", .glo "_law_mixed", .glo "_law_same"] : List (He.Fa)) ++ ([.glo "_law_loose", .glo "_law_names", .glo "_law_around", .glo "_law_folds", .glo "_law_less", .glo "_law_all_folds", .glo "_law_down", .glo "_law_shadow"] : List (He.Fa)) ++ ([.glo "_law_folding", .glo "_law_far", .glo "_law_made", .glo "_law_run_right", .glo "law", .glo "ChaseError", .glo "BadPlaces", .glo "BadPaths"] : List (He.Fa)) ++ ([.glo "BadGround", .glo "BadPlace", .glo "BadFolds", .glo "BadLevel", .glo "Ground", .free "range", .free "enumerate", .free "zip"] : List (He.Fa)) ++ ([.free "isinstance", .free "len", .free "sorted", .free "list", .free "tuple", .free "all", .free "any", .free "min"] : List (He.Fa)) ++ ([.free "max", .free "int", .free "abs", .free "dict", .free "bool", .free "str", .cls "Ground", .mkr "Ground"] : List (He.Fa)) ++ ([.meth "Ground" "__init__", .meth "Ground" "is_pair", .meth "Ground" "places", .meth "Ground" "paths", .meth "Ground" "around", .meth "Ground" "__eq__", .noat "Ground" "own_places", .noat "Ground" "own_paths"] : List (He.Fa)) ++ ([.noat "Ground" "own_around", .str "LETTERS" "abcdefghijklmnopqrstuvwxyz"] : List (He.Fa))
def nm : List PySem.Str := (["is_list", "is_whole", "is_number", "is_row", "is_name", "is_index", "first_bad_place", "is_place"] : List (PySem.Str)) ++ (["check_place", "check_ground", "without_of", "holds", "folds_of", "gone_through", "rest_of", "shade"] : List (PySem.Str)) ++ (["check_level", "shadow", "follow", "_law_stream", "_law_draw", "_law_pick", "_law_mixed", "_law_same"] : List (PySem.Str)) ++ (["_law_loose", "_law_names", "_law_around", "_law_folds", "_law_less", "_law_all_folds", "_law_down", "_law_shadow"] : List (PySem.Str)) ++ (["_law_folding", "_law_far", "_law_made", "_law_run_right", "ChaseError", "BadPlaces", "BadPaths", "BadGround"] : List (PySem.Str)) ++ (["BadPlace", "BadFolds", "BadLevel", "Ground", "LETTERS"] : List (PySem.Str))
def g : Gi where
  fns := ([("is_list", (["thing"], [(1, [])])), ("is_whole", (["thing"], [(1, [])])), ("is_number", (["thing"], [(1, [])])), ("is_row", (["thing", "many"], [(2, [])])), ("is_name", (["thing"], [(1, [])])), ("is_index", (["thing", "many"], [(2, [])])), ("first_bad_place", (["places"], [(1, [])])), ("is_place", (["ground", "thing"], [(2, [])]))] : List (PySem.Str × (List PySem.Str × List (Nat × List PySem.Str)))) ++ ([("check_place", (["ground", "place"], [(2, [])])), ("check_ground", (["ground"], [(1, [])])), ("without_of", (["ground", "place"], [(2, [])])), ("holds", (["ground", "other"], [(2, [])])), ("folds_of", (["ground", "place", "other"], [(3, [])])), ("gone_through", (["ground", "thing"], [(2, [])])), ("rest_of", (["ground", "folds"], [(2, [])])), ("shade", (["folds", "level", "place"], [(3, [])]))] : List (PySem.Str × (List PySem.Str × List (Nat × List PySem.Str)))) ++ ([("check_level", (["ground", "folds", "level"], [(3, [])])), ("shadow", (["ground", "folds", "level", "place"], [(0, ["place", "level", "folds", "ground"]), (4, [])])), ("follow", (["ground", "folds", "level", "place"], [(4, [])])), ("_law_stream", (["script"], [(1, [])])), ("_law_draw", (["stream", "many"], [(2, [])])), ("_law_pick", (["stream", "things"], [(2, [])])), ("_law_mixed", (["stream", "things"], [(2, [])])), ("_law_same", (["found", "due"], [(2, [])]))] : List (PySem.Str × (List PySem.Str × List (Nat × List PySem.Str)))) ++ ([("_law_loose", (["stream", "thing"], [(2, [])])), ("_law_names", (["stream", "many"], [(2, [])])), ("_law_around", (["ground", "place"], [(2, [])])), ("_law_folds", (["ground", "place", "other"], [(3, [])])), ("_law_less", (["ground", "place"], [(2, [])])), ("_law_all_folds", (["ground"], [(1, [])])), ("_law_down", (["stream", "ground"], [(2, [])])), ("_law_shadow", (["folds", "level", "place"], [(3, [])]))] : List (PySem.Str × (List PySem.Str × List (Nat × List PySem.Str)))) ++ ([("_law_folding", (["stream", "places"], [(2, [])])), ("_law_far", (["ground", "place"], [(2, [])])), ("_law_made", (["stream", "ground"], [(2, [])])), ("_law_run_right", (["stream", "ground", "made", "folds"], [(4, [])]))] : List (PySem.Str × (List PySem.Str × List (Nat × List PySem.Str))))
  cls := ([("Ground", (["places", "paths"], [(2, [])]))] : List (PySem.Str × (List PySem.Str × List (Nat × List PySem.Str))))
  cst := [("LETTERS", .str "abcdefghijklmnopqrstuvwxyz")]
  fld := [("own_places", ["Ground"]), ("own_paths", ["Ground"]), ("own_around", ["Ground"])]
abbrev Rw : PySem.W.OpenRow := PySem.W.OpenLaw.row PySem.Challenge.rw_runaways_k33_whole_the_walkers_rule
abbrev ex : PySem.W.Frag → Bool := clsEnvB ["Ground"]
abbrev hk : PySem.W.Hook := hookX 5 ex fa fn
def ob (s : PySem.W.SharedT) : He.AlD := obsXG 5 ex fa fn (HandSHeadRun.getT s)
theorem ob_eq (s : PySem.W.SharedT) : ob s = hk.obs s.abs := obsXG_eq (HandSHeadRun.getT_eq s)
theorem run (w : World) : HandSHeadRun.RunEq Rw (PySem.W.view Rw.prog [50]) hk ob 4000 nm w := by
  intro os
  kernel_rfl
def n0 : List PySem.Str := ["thing"]
def c0 : List Is := (mapO (compS g n0 f0.scope 30) f0.body).getD []
theorem k0 : mapO (compS g n0 f0.scope 30) f0.body = some c0 := by
  have h : (mapO (compS g n0 f0.scope 30) f0.body).isSome = true := by kernel_rfl
  obtain ⟨x, e⟩ := Option.isSome_iff_exists.mp h
  unfold c0
  rw [e]
  rfl
theorem s0 : fnScopeB n0 ["thing"] f0.scope = true := by kernel_rfl
def n1 : List PySem.Str := ["thing"]
def c1 : List Is := (mapO (compS g n1 f1.scope 30) f1.body).getD []
theorem k1 : mapO (compS g n1 f1.scope 30) f1.body = some c1 := by
  have h : (mapO (compS g n1 f1.scope 30) f1.body).isSome = true := by kernel_rfl
  obtain ⟨x, e⟩ := Option.isSome_iff_exists.mp h
  unfold c1
  rw [e]
  rfl
theorem s1 : fnScopeB n1 ["thing"] f1.scope = true := by kernel_rfl
def n2 : List PySem.Str := ["thing"]
def c2 : List Is := (mapO (compS g n2 f2.scope 30) f2.body).getD []
theorem k2 : mapO (compS g n2 f2.scope 30) f2.body = some c2 := by
  have h : (mapO (compS g n2 f2.scope 30) f2.body).isSome = true := by kernel_rfl
  obtain ⟨x, e⟩ := Option.isSome_iff_exists.mp h
  unfold c2
  rw [e]
  rfl
theorem s2 : fnScopeB n2 ["thing"] f2.scope = true := by kernel_rfl
def n3 : List PySem.Str := ["thing", "many"]
def c3 : List Is := (mapO (compS g n3 f3.scope 30) f3.body).getD []
theorem k3 : mapO (compS g n3 f3.scope 30) f3.body = some c3 := by
  have h : (mapO (compS g n3 f3.scope 30) f3.body).isSome = true := by kernel_rfl
  obtain ⟨x, e⟩ := Option.isSome_iff_exists.mp h
  unfold c3
  rw [e]
  rfl
theorem s3 : fnScopeB n3 ["thing", "many"] f3.scope = true := by kernel_rfl
def n4 : List PySem.Str := ["thing", "sign"]
def c4 : List Is := (mapO (compS g n4 f4.scope 30) f4.body).getD []
theorem k4 : mapO (compS g n4 f4.scope 30) f4.body = some c4 := by
  have h : (mapO (compS g n4 f4.scope 30) f4.body).isSome = true := by kernel_rfl
  obtain ⟨x, e⟩ := Option.isSome_iff_exists.mp h
  unfold c4
  rw [e]
  rfl
theorem s4 : fnScopeB n4 ["thing"] f4.scope = true := by kernel_rfl
def n5 : List PySem.Str := ["thing", "many"]
def c5 : List Is := (mapO (compS g n5 f5.scope 30) f5.body).getD []
theorem k5 : mapO (compS g n5 f5.scope 30) f5.body = some c5 := by
  have h : (mapO (compS g n5 f5.scope 30) f5.body).isSome = true := by kernel_rfl
  obtain ⟨x, e⟩ := Option.isSome_iff_exists.mp h
  unfold c5
  rw [e]
  rfl
theorem s5 : fnScopeB n5 ["thing", "many"] f5.scope = true := by kernel_rfl
def n12 : List PySem.Str := ["places", "known", "index", "place"]
def c12 : List Is := (mapO (compS g n12 f12.scope 30) f12.body).getD []
theorem k12 : mapO (compS g n12 f12.scope 30) f12.body = some c12 := by
  have h : (mapO (compS g n12 f12.scope 30) f12.body).isSome = true := by kernel_rfl
  obtain ⟨x, e⟩ := Option.isSome_iff_exists.mp h
  unfold c12
  rw [e]
  rfl
theorem s12 : fnScopeB n12 ["places"] f12.scope = true := by kernel_rfl
def n19 : List PySem.Str := ["ground", "thing"]
def c19 : List Is := (mapO (compS g n19 f19.scope 30) f19.body).getD []
theorem k19 : mapO (compS g n19 f19.scope 30) f19.body = some c19 := by
  have h : (mapO (compS g n19 f19.scope 30) f19.body).isSome = true := by kernel_rfl
  obtain ⟨x, e⟩ := Option.isSome_iff_exists.mp h
  unfold c19
  rw [e]
  rfl
theorem s19 : fnScopeB n19 ["ground", "thing"] f19.scope = true := by kernel_rfl
def n20 : List PySem.Str := ["ground", "place"]
def c20 : List Is := (mapO (compS g n20 f20.scope 30) f20.body).getD []
theorem k20 : mapO (compS g n20 f20.scope 30) f20.body = some c20 := by
  have h : (mapO (compS g n20 f20.scope 30) f20.body).isSome = true := by kernel_rfl
  obtain ⟨x, e⟩ := Option.isSome_iff_exists.mp h
  unfold c20
  rw [e]
  rfl
theorem s20 : fnScopeB n20 ["ground", "place"] f20.scope = true := by kernel_rfl
def n21 : List PySem.Str := ["ground"]
def c21 : List Is := (mapO (compS g n21 f21.scope 30) f21.body).getD []
theorem k21 : mapO (compS g n21 f21.scope 30) f21.body = some c21 := by
  have h : (mapO (compS g n21 f21.scope 30) f21.body).isSome = true := by kernel_rfl
  obtain ⟨x, e⟩ := Option.isSome_iff_exists.mp h
  unfold c21
  rw [e]
  rfl
theorem s21 : fnScopeB n21 ["ground"] f21.scope = true := by kernel_rfl
def n22 : List PySem.Str := ["ground", "place", "places", "other", "path"]
def c22 : List Is := (mapO (compS g n22 f22.scope 30) f22.body).getD []
theorem k22 : mapO (compS g n22 f22.scope 30) f22.body = some c22 := by
  have h : (mapO (compS g n22 f22.scope 30) f22.body).isSome = true := by kernel_rfl
  obtain ⟨x, e⟩ := Option.isSome_iff_exists.mp h
  unfold c22
  rw [e]
  rfl
theorem s22 : fnScopeB n22 ["ground", "place"] f22.scope = true := by kernel_rfl
def n23 : List PySem.Str := ["ground", "other"]
def c23 : List Is := (mapO (compS g n23 f23.scope 30) f23.body).getD []
theorem k23 : mapO (compS g n23 f23.scope 30) f23.body = some c23 := by
  have h : (mapO (compS g n23 f23.scope 30) f23.body).isSome = true := by kernel_rfl
  obtain ⟨x, e⟩ := Option.isSome_iff_exists.mp h
  unfold c23
  rw [e]
  rfl
theorem s23 : fnScopeB n23 ["ground", "other"] f23.scope = true := by kernel_rfl
def n24 : List PySem.Str := ["ground", "place", "other", "near"]
def c24 : List Is := (mapO (compS g n24 f24.scope 30) f24.body).getD []
theorem k24 : mapO (compS g n24 f24.scope 30) f24.body = some c24 := by
  have h : (mapO (compS g n24 f24.scope 30) f24.body).isSome = true := by kernel_rfl
  obtain ⟨x, e⟩ := Option.isSome_iff_exists.mp h
  unfold c24
  rw [e]
  rfl
theorem s24 : fnScopeB n24 ["ground", "place", "other"] f24.scope = true := by kernel_rfl
def n25 : List PySem.Str := ["ground", "thing", "index", "pair"]
def c25 : List Is := (mapO (compS g n25 f25.scope 30) f25.body).getD []
theorem k25 : mapO (compS g n25 f25.scope 30) f25.body = some c25 := by
  have h : (mapO (compS g n25 f25.scope 30) f25.body).isSome = true := by kernel_rfl
  obtain ⟨x, e⟩ := Option.isSome_iff_exists.mp h
  unfold c25
  rw [e]
  rfl
theorem s25 : fnScopeB n25 ["ground", "thing"] f25.scope = true := by kernel_rfl
def n26 : List PySem.Str := ["ground", "folds", "wrong", "found"]
def c26 : List Is := (mapO (compS g n26 f26.scope 30) f26.body).getD []
theorem k26 : mapO (compS g n26 f26.scope 30) f26.body = some c26 := by
  have h : (mapO (compS g n26 f26.scope 30) f26.body).isSome = true := by kernel_rfl
  obtain ⟨x, e⟩ := Option.isSome_iff_exists.mp h
  unfold c26
  rw [e]
  rfl
theorem s26 : fnScopeB n26 ["ground", "folds"] f26.scope = true := by kernel_rfl
def n27 : List PySem.Str := ["folds", "level", "place", "one", "other"]
def c27 : List Is := (mapO (compS g n27 f27.scope 30) f27.body).getD []
theorem k27 : mapO (compS g n27 f27.scope 30) f27.body = some c27 := by
  have h : (mapO (compS g n27 f27.scope 30) f27.body).isSome = true := by kernel_rfl
  obtain ⟨x, e⟩ := Option.isSome_iff_exists.mp h
  unfold c27
  rw [e]
  rfl
theorem s27 : fnScopeB n27 ["folds", "level", "place"] f27.scope = true := by kernel_rfl
def n28 : List PySem.Str := ["ground", "folds", "level"]
def c28 : List Is := (mapO (compS g n28 f28.scope 30) f28.body).getD []
theorem k28 : mapO (compS g n28 f28.scope 30) f28.body = some c28 := by
  have h : (mapO (compS g n28 f28.scope 30) f28.body).isSome = true := by kernel_rfl
  obtain ⟨x, e⟩ := Option.isSome_iff_exists.mp h
  unfold c28
  rw [e]
  rfl
theorem s28 : fnScopeB n28 ["ground", "folds", "level"] f28.scope = true := by kernel_rfl
def n29 : List PySem.Str := ["ground", "folds", "level", "place"]
def c29 : List Is := (mapO (compS g n29 f29.scope 30) f29.body).getD []
theorem k29 : mapO (compS g n29 f29.scope 30) f29.body = some c29 := by
  have h : (mapO (compS g n29 f29.scope 30) f29.body).isSome = true := by kernel_rfl
  obtain ⟨x, e⟩ := Option.isSome_iff_exists.mp h
  unfold c29
  rw [e]
  rfl
theorem s29 : fnScopeB n29 ["ground", "folds", "level", "place"] f29.scope = true := by kernel_rfl
def n30 : List PySem.Str := ["ground", "folds", "level", "place"]
def c30 : List Is := (mapO (compS g n30 f30.scope 30) f30.body).getD []
theorem k30 : mapO (compS g n30 f30.scope 30) f30.body = some c30 := by
  have h : (mapO (compS g n30 f30.scope 30) f30.body).isSome = true := by kernel_rfl
  obtain ⟨x, e⟩ := Option.isSome_iff_exists.mp h
  unfold c30
  rw [e]
  rfl
theorem s30 : fnScopeB n30 ["ground", "folds", "level", "place"] f30.scope = true := by kernel_rfl
def n31 : List PySem.Str := ["script"]
def c31 : List Is := (mapO (compS g n31 f31.scope 30) f31.body).getD []
theorem k31 : mapO (compS g n31 f31.scope 30) f31.body = some c31 := by
  have h : (mapO (compS g n31 f31.scope 30) f31.body).isSome = true := by kernel_rfl
  obtain ⟨x, e⟩ := Option.isSome_iff_exists.mp h
  unfold c31
  rw [e]
  rfl
theorem s31 : fnScopeB n31 ["script"] f31.scope = true := by kernel_rfl
def n32 : List PySem.Str := ["stream", "many", "mixed", "cell", "digit"]
def c32 : List Is := (mapO (compS g n32 f32.scope 30) f32.body).getD []
theorem k32 : mapO (compS g n32 f32.scope 30) f32.body = some c32 := by
  have h : (mapO (compS g n32 f32.scope 30) f32.body).isSome = true := by kernel_rfl
  obtain ⟨x, e⟩ := Option.isSome_iff_exists.mp h
  unfold c32
  rw [e]
  rfl
theorem s32 : fnScopeB n32 ["stream", "many"] f32.scope = true := by kernel_rfl
def n33 : List PySem.Str := ["stream", "things"]
def c33 : List Is := (mapO (compS g n33 f33.scope 30) f33.body).getD []
theorem k33 : mapO (compS g n33 f33.scope 30) f33.body = some c33 := by
  have h : (mapO (compS g n33 f33.scope 30) f33.body).isSome = true := by kernel_rfl
  obtain ⟨x, e⟩ := Option.isSome_iff_exists.mp h
  unfold c33
  rw [e]
  rfl
theorem s33 : fnScopeB n33 ["stream", "things"] f33.scope = true := by kernel_rfl
def n34 : List PySem.Str := ["stream", "things", "k", "left", "found"]
def c34 : List Is := (mapO (compS g n34 f34.scope 30) f34.body).getD []
theorem k34 : mapO (compS g n34 f34.scope 30) f34.body = some c34 := by
  have h : (mapO (compS g n34 f34.scope 30) f34.body).isSome = true := by kernel_rfl
  obtain ⟨x, e⟩ := Option.isSome_iff_exists.mp h
  unfold c34
  rw [e]
  rfl
theorem s34 : fnScopeB n34 ["stream", "things"] f34.scope = true := by kernel_rfl
def n35 : List PySem.Str := ["found", "due", "mine", "theirs"]
def c35 : List Is := (mapO (compS g n35 f35.scope 30) f35.body).getD []
theorem k35 : mapO (compS g n35 f35.scope 30) f35.body = some c35 := by
  have h : (mapO (compS g n35 f35.scope 30) f35.body).isSome = true := by kernel_rfl
  obtain ⟨x, e⟩ := Option.isSome_iff_exists.mp h
  unfold c35
  rw [e]
  rfl
theorem s35 : fnScopeB n35 ["found", "due"] f35.scope = true := by kernel_rfl
def n36 : List PySem.Str := ["stream", "thing", "some", "one"]
def c36 : List Is := (mapO (compS g n36 f36.scope 30) f36.body).getD []
theorem k36 : mapO (compS g n36 f36.scope 30) f36.body = some c36 := by
  have h : (mapO (compS g n36 f36.scope 30) f36.body).isSome = true := by kernel_rfl
  obtain ⟨x, e⟩ := Option.isSome_iff_exists.mp h
  unfold c36
  rw [e]
  rfl
theorem s36 : fnScopeB n36 ["stream", "thing"] f36.scope = true := by kernel_rfl
def n37 : List PySem.Str := ["stream", "many", "k", "found", "signs", "name", "at", "one"]
def c37 : List Is := (mapO (compS g n37 f37.scope 30) f37.body).getD []
theorem k37 : mapO (compS g n37 f37.scope 30) f37.body = some c37 := by
  have h : (mapO (compS g n37 f37.scope 30) f37.body).isSome = true := by kernel_rfl
  obtain ⟨x, e⟩ := Option.isSome_iff_exists.mp h
  unfold c37
  rw [e]
  rfl
theorem s37 : fnScopeB n37 ["stream", "many"] f37.scope = true := by kernel_rfl
def n38 : List PySem.Str := ["ground", "place", "path"]
def c38 : List Is := (mapO (compS g n38 f38.scope 30) f38.body).getD []
theorem k38 : mapO (compS g n38 f38.scope 30) f38.body = some c38 := by
  have h : (mapO (compS g n38 f38.scope 30) f38.body).isSome = true := by kernel_rfl
  obtain ⟨x, e⟩ := Option.isSome_iff_exists.mp h
  unfold c38
  rw [e]
  rfl
theorem s38 : fnScopeB n38 ["ground", "place"] f38.scope = true := by kernel_rfl
def n39 : List PySem.Str := ["ground", "place", "other", "held", "near"]
def c39 : List Is := (mapO (compS g n39 f39.scope 30) f39.body).getD []
theorem k39 : mapO (compS g n39 f39.scope 30) f39.body = some c39 := by
  have h : (mapO (compS g n39 f39.scope 30) f39.body).isSome = true := by kernel_rfl
  obtain ⟨x, e⟩ := Option.isSome_iff_exists.mp h
  unfold c39
  rw [e]
  rfl
theorem s39 : fnScopeB n39 ["ground", "place", "other"] f39.scope = true := by kernel_rfl
def n40 : List PySem.Str := ["ground", "place", "other", "path"]
def c40 : List Is := (mapO (compS g n40 f40.scope 30) f40.body).getD []
theorem k40 : mapO (compS g n40 f40.scope 30) f40.body = some c40 := by
  have h : (mapO (compS g n40 f40.scope 30) f40.body).isSome = true := by kernel_rfl
  obtain ⟨x, e⟩ := Option.isSome_iff_exists.mp h
  unfold c40
  rw [e]
  rfl
theorem s40 : fnScopeB n40 ["ground", "place"] f40.scope = true := by kernel_rfl
def n41 : List PySem.Str := ["ground", "found", "place", "other"]
def c41 : List Is := (mapO (compS g n41 f41.scope 30) f41.body).getD []
theorem k41 : mapO (compS g n41 f41.scope 30) f41.body = some c41 := by
  have h : (mapO (compS g n41 f41.scope 30) f41.body).isSome = true := by kernel_rfl
  obtain ⟨x, e⟩ := Option.isSome_iff_exists.mp h
  unfold c41
  rw [e]
  rfl
theorem s41 : fnScopeB n41 ["ground"] f41.scope = true := by kernel_rfl
def n42 : List PySem.Str := ["stream", "ground", "found", "some"]
def c42 : List Is := (mapO (compS g n42 f42.scope 30) f42.body).getD []
theorem k42 : mapO (compS g n42 f42.scope 30) f42.body = some c42 := by
  have h : (mapO (compS g n42 f42.scope 30) f42.body).isSome = true := by kernel_rfl
  obtain ⟨x, e⟩ := Option.isSome_iff_exists.mp h
  unfold c42
  rw [e]
  rfl
theorem s42 : fnScopeB n42 ["stream", "ground"] f42.scope = true := by kernel_rfl
def n43 : List PySem.Str := ["folds", "level", "place", "one", "other"]
def c43 : List Is := (mapO (compS g n43 f43.scope 30) f43.body).getD []
theorem k43 : mapO (compS g n43 f43.scope 30) f43.body = some c43 := by
  have h : (mapO (compS g n43 f43.scope 30) f43.body).isSome = true := by kernel_rfl
  obtain ⟨x, e⟩ := Option.isSome_iff_exists.mp h
  unfold c43
  rw [e]
  rfl
theorem s43 : fnScopeB n43 ["folds", "level", "place"] f43.scope = true := by kernel_rfl
def n44 : List PySem.Str := ["stream", "places", "names", "at", "mixed", "found", "onto", "near", "one"]
def c44 : List Is := (mapO (compS g n44 f44.scope 30) f44.body).getD []
theorem k44 : mapO (compS g n44 f44.scope 30) f44.body = some c44 := by
  have h : (mapO (compS g n44 f44.scope 30) f44.body).isSome = true := by kernel_rfl
  obtain ⟨x, e⟩ := Option.isSome_iff_exists.mp h
  unfold c44
  rw [e]
  rfl
theorem s44 : fnScopeB n44 ["stream", "places"] f44.scope = true := by kernel_rfl
def n45 : List PySem.Str := ["ground", "place", "far", "found", "here", "more", "one", "other"]
def c45 : List Is := (mapO (compS g n45 f45.scope 30) f45.body).getD []
theorem k45 : mapO (compS g n45 f45.scope 30) f45.body = some c45 := by
  have h : (mapO (compS g n45 f45.scope 30) f45.body).isSome = true := by kernel_rfl
  obtain ⟨x, e⟩ := Option.isSome_iff_exists.mp h
  unfold c45
  rw [e]
  rfl
theorem s45 : fnScopeB n45 ["ground", "place"] f45.scope = true := by kernel_rfl
def n46 : List PySem.Str := ["stream", "ground", "paths", "path"]
def c46 : List Is := (mapO (compS g n46 f46.scope 30) f46.body).getD []
theorem k46 : mapO (compS g n46 f46.scope 30) f46.body = some c46 := by
  have h : (mapO (compS g n46 f46.scope 30) f46.body).isSome = true := by kernel_rfl
  obtain ⟨x, e⟩ := Option.isSome_iff_exists.mp h
  unfold c46
  rw [e]
  rfl
theorem s46 : fnScopeB n46 ["stream", "ground"] f46.scope = true := by kernel_rfl
def n47 : List PySem.Str := ["stream", "ground", "made", "folds", "level", "guard", "others", "turn", "place", "way", "told", "steps", "far", "due", "one", "pair"]
def c47 : List Is := (mapO (compS g n47 f47.scope 30) f47.body).getD []
theorem k47 : mapO (compS g n47 f47.scope 30) f47.body = some c47 := by
  have h : (mapO (compS g n47 f47.scope 30) f47.body).isSome = true := by kernel_rfl
  obtain ⟨x, e⟩ := Option.isSome_iff_exists.mp h
  unfold c47
  rw [e]
  rfl
theorem s47 : fnScopeB n47 ["stream", "ground", "made", "folds"] f47.scope = true := by kernel_rfl
end Lw
/-! LawS -/
namespace Lw
open PySem PySem.Spec PyProof.Rows L2 Ev
section
variable {K : PySem.W.Frag} {h : Heap} {mg : Str → Option Value}
theorem d0 (X : K.In h) (G : h.Ns mainGlobals mg) (c : SaysX ex fa fn K) : DefOk g K mg "is_list" ⟨1, 1, c0⟩ := by
  obtain ⟨fd, F⟩ := c.d.def_ 0 (d := f0) rfl
  exact ⟨⟨["thing"], [(1, [])], _, _, _, _, _, _, fd, n0, by kernel_rfl, F, s0, k0, rfl, rfl, He.glo_ok X G (c.d.fact 0 (f := .glo "is_list") rfl), F.kp, (bindSh_cons (bindSh_pos rfl (fun s us hl => FunD.bindsA (ps := ["thing"]) F (fun _ _ _ _ _ _ us hl => match us, hl with | [_], _ => rfl) s us hl)) bindSh_nil)⟩⟩
theorem d1 (X : K.In h) (G : h.Ns mainGlobals mg) (c : SaysX ex fa fn K) : DefOk g K mg "is_whole" ⟨1, 1, c1⟩ := by
  obtain ⟨fd, F⟩ := c.d.def_ 1 (d := f1) rfl
  exact ⟨⟨["thing"], [(1, [])], _, _, _, _, _, _, fd, n1, by kernel_rfl, F, s1, k1, rfl, rfl, He.glo_ok X G (c.d.fact 1 (f := .glo "is_whole") rfl), F.kp, (bindSh_cons (bindSh_pos rfl (fun s us hl => FunD.bindsA (ps := ["thing"]) F (fun _ _ _ _ _ _ us hl => match us, hl with | [_], _ => rfl) s us hl)) bindSh_nil)⟩⟩
theorem d2 (X : K.In h) (G : h.Ns mainGlobals mg) (c : SaysX ex fa fn K) : DefOk g K mg "is_number" ⟨1, 1, c2⟩ := by
  obtain ⟨fd, F⟩ := c.d.def_ 2 (d := f2) rfl
  exact ⟨⟨["thing"], [(1, [])], _, _, _, _, _, _, fd, n2, by kernel_rfl, F, s2, k2, rfl, rfl, He.glo_ok X G (c.d.fact 2 (f := .glo "is_number") rfl), F.kp, (bindSh_cons (bindSh_pos rfl (fun s us hl => FunD.bindsA (ps := ["thing"]) F (fun _ _ _ _ _ _ us hl => match us, hl with | [_], _ => rfl) s us hl)) bindSh_nil)⟩⟩
theorem d3 (X : K.In h) (G : h.Ns mainGlobals mg) (c : SaysX ex fa fn K) : DefOk g K mg "is_row" ⟨2, 2, c3⟩ := by
  obtain ⟨fd, F⟩ := c.d.def_ 3 (d := f3) rfl
  exact ⟨⟨["thing", "many"], [(2, [])], _, _, _, _, _, _, fd, n3, by kernel_rfl, F, s3, k3, rfl, rfl, He.glo_ok X G (c.d.fact 3 (f := .glo "is_row") rfl), F.kp, (bindSh_cons (bindSh_pos rfl (fun s us hl => FunD.bindsA (ps := ["thing", "many"]) F (fun _ _ _ _ _ _ us hl => match us, hl with | [_, _], _ => rfl) s us hl)) bindSh_nil)⟩⟩
theorem d4 (X : K.In h) (G : h.Ns mainGlobals mg) (c : SaysX ex fa fn K) : DefOk g K mg "is_name" ⟨1, 2, c4⟩ := by
  obtain ⟨fd, F⟩ := c.d.def_ 4 (d := f4) rfl
  exact ⟨⟨["thing"], [(1, [])], _, _, _, _, _, _, fd, n4, by kernel_rfl, F, s4, k4, rfl, rfl, He.glo_ok X G (c.d.fact 4 (f := .glo "is_name") rfl), F.kp, (bindSh_cons (bindSh_pos rfl (fun s us hl => FunD.bindsA (ps := ["thing"]) F (fun _ _ _ _ _ _ us hl => match us, hl with | [_], _ => rfl) s us hl)) bindSh_nil)⟩⟩
theorem d5 (X : K.In h) (G : h.Ns mainGlobals mg) (c : SaysX ex fa fn K) : DefOk g K mg "is_index" ⟨2, 2, c5⟩ := by
  obtain ⟨fd, F⟩ := c.d.def_ 5 (d := f5) rfl
  exact ⟨⟨["thing", "many"], [(2, [])], _, _, _, _, _, _, fd, n5, by kernel_rfl, F, s5, k5, rfl, rfl, He.glo_ok X G (c.d.fact 5 (f := .glo "is_index") rfl), F.kp, (bindSh_cons (bindSh_pos rfl (fun s us hl => FunD.bindsA (ps := ["thing", "many"]) F (fun _ _ _ _ _ _ us hl => match us, hl with | [_, _], _ => rfl) s us hl)) bindSh_nil)⟩⟩
theorem d12 (X : K.In h) (G : h.Ns mainGlobals mg) (c : SaysX ex fa fn K) : DefOk g K mg "first_bad_place" ⟨1, 4, c12⟩ := by
  obtain ⟨fd, F⟩ := c.d.def_ 12 (d := f12) rfl
  exact ⟨⟨["places"], [(1, [])], _, _, _, _, _, _, fd, n12, by kernel_rfl, F, s12, k12, rfl, rfl, He.glo_ok X G (c.d.fact 6 (f := .glo "first_bad_place") rfl), F.kp, (bindSh_cons (bindSh_pos rfl (fun s us hl => FunD.bindsA (ps := ["places"]) F (fun _ _ _ _ _ _ us hl => match us, hl with | [_], _ => rfl) s us hl)) bindSh_nil)⟩⟩
theorem d19 (X : K.In h) (G : h.Ns mainGlobals mg) (c : SaysX ex fa fn K) : DefOk g K mg "is_place" ⟨2, 2, c19⟩ := by
  obtain ⟨fd, F⟩ := c.d.def_ 19 (d := f19) rfl
  exact ⟨⟨["ground", "thing"], [(2, [])], _, _, _, _, _, _, fd, n19, by kernel_rfl, F, s19, k19, rfl, rfl, He.glo_ok X G (c.d.fact 7 (f := .glo "is_place") rfl), F.kp, (bindSh_cons (bindSh_pos rfl (fun s us hl => FunD.bindsA (ps := ["ground", "thing"]) F (fun _ _ _ _ _ _ us hl => match us, hl with | [_, _], _ => rfl) s us hl)) bindSh_nil)⟩⟩
theorem d20 (X : K.In h) (G : h.Ns mainGlobals mg) (c : SaysX ex fa fn K) : DefOk g K mg "check_place" ⟨2, 2, c20⟩ := by
  obtain ⟨fd, F⟩ := c.d.def_ 20 (d := f20) rfl
  exact ⟨⟨["ground", "place"], [(2, [])], _, _, _, _, _, _, fd, n20, by kernel_rfl, F, s20, k20, rfl, rfl, He.glo_ok X G (c.d.fact 8 (f := .glo "check_place") rfl), F.kp, (bindSh_cons (bindSh_pos rfl (fun s us hl => FunD.bindsA (ps := ["ground", "place"]) F (fun _ _ _ _ _ _ us hl => match us, hl with | [_, _], _ => rfl) s us hl)) bindSh_nil)⟩⟩
theorem d21 (X : K.In h) (G : h.Ns mainGlobals mg) (c : SaysX ex fa fn K) : DefOk g K mg "check_ground" ⟨1, 1, c21⟩ := by
  obtain ⟨fd, F⟩ := c.d.def_ 21 (d := f21) rfl
  exact ⟨⟨["ground"], [(1, [])], _, _, _, _, _, _, fd, n21, by kernel_rfl, F, s21, k21, rfl, rfl, He.glo_ok X G (c.d.fact 9 (f := .glo "check_ground") rfl), F.kp, (bindSh_cons (bindSh_pos rfl (fun s us hl => FunD.bindsA (ps := ["ground"]) F (fun _ _ _ _ _ _ us hl => match us, hl with | [_], _ => rfl) s us hl)) bindSh_nil)⟩⟩
theorem d22 (X : K.In h) (G : h.Ns mainGlobals mg) (c : SaysX ex fa fn K) : DefOk g K mg "without_of" ⟨2, 5, c22⟩ := by
  obtain ⟨fd, F⟩ := c.d.def_ 22 (d := f22) rfl
  exact ⟨⟨["ground", "place"], [(2, [])], _, _, _, _, _, _, fd, n22, by kernel_rfl, F, s22, k22, rfl, rfl, He.glo_ok X G (c.d.fact 10 (f := .glo "without_of") rfl), F.kp, (bindSh_cons (bindSh_pos rfl (fun s us hl => FunD.bindsA (ps := ["ground", "place"]) F (fun _ _ _ _ _ _ us hl => match us, hl with | [_, _], _ => rfl) s us hl)) bindSh_nil)⟩⟩
theorem d23 (X : K.In h) (G : h.Ns mainGlobals mg) (c : SaysX ex fa fn K) : DefOk g K mg "holds" ⟨2, 2, c23⟩ := by
  obtain ⟨fd, F⟩ := c.d.def_ 23 (d := f23) rfl
  exact ⟨⟨["ground", "other"], [(2, [])], _, _, _, _, _, _, fd, n23, by kernel_rfl, F, s23, k23, rfl, rfl, He.glo_ok X G (c.d.fact 11 (f := .glo "holds") rfl), F.kp, (bindSh_cons (bindSh_pos rfl (fun s us hl => FunD.bindsA (ps := ["ground", "other"]) F (fun _ _ _ _ _ _ us hl => match us, hl with | [_, _], _ => rfl) s us hl)) bindSh_nil)⟩⟩
theorem d24 (X : K.In h) (G : h.Ns mainGlobals mg) (c : SaysX ex fa fn K) : DefOk g K mg "folds_of" ⟨3, 4, c24⟩ := by
  obtain ⟨fd, F⟩ := c.d.def_ 24 (d := f24) rfl
  exact ⟨⟨["ground", "place", "other"], [(3, [])], _, _, _, _, _, _, fd, n24, by kernel_rfl, F, s24, k24, rfl, rfl, He.glo_ok X G (c.d.fact 12 (f := .glo "folds_of") rfl), F.kp, (bindSh_cons (bindSh_pos rfl (fun s us hl => FunD.bindsA (ps := ["ground", "place", "other"]) F (fun _ _ _ _ _ _ us hl => match us, hl with | [_, _, _], _ => rfl) s us hl)) bindSh_nil)⟩⟩
theorem d25 (X : K.In h) (G : h.Ns mainGlobals mg) (c : SaysX ex fa fn K) : DefOk g K mg "gone_through" ⟨2, 4, c25⟩ := by
  obtain ⟨fd, F⟩ := c.d.def_ 25 (d := f25) rfl
  exact ⟨⟨["ground", "thing"], [(2, [])], _, _, _, _, _, _, fd, n25, by kernel_rfl, F, s25, k25, rfl, rfl, He.glo_ok X G (c.d.fact 13 (f := .glo "gone_through") rfl), F.kp, (bindSh_cons (bindSh_pos rfl (fun s us hl => FunD.bindsA (ps := ["ground", "thing"]) F (fun _ _ _ _ _ _ us hl => match us, hl with | [_, _], _ => rfl) s us hl)) bindSh_nil)⟩⟩
theorem d26 (X : K.In h) (G : h.Ns mainGlobals mg) (c : SaysX ex fa fn K) : DefOk g K mg "rest_of" ⟨2, 4, c26⟩ := by
  obtain ⟨fd, F⟩ := c.d.def_ 26 (d := f26) rfl
  exact ⟨⟨["ground", "folds"], [(2, [])], _, _, _, _, _, _, fd, n26, by kernel_rfl, F, s26, k26, rfl, rfl, He.glo_ok X G (c.d.fact 14 (f := .glo "rest_of") rfl), F.kp, (bindSh_cons (bindSh_pos rfl (fun s us hl => FunD.bindsA (ps := ["ground", "folds"]) F (fun _ _ _ _ _ _ us hl => match us, hl with | [_, _], _ => rfl) s us hl)) bindSh_nil)⟩⟩
theorem d27 (X : K.In h) (G : h.Ns mainGlobals mg) (c : SaysX ex fa fn K) : DefOk g K mg "shade" ⟨3, 5, c27⟩ := by
  obtain ⟨fd, F⟩ := c.d.def_ 27 (d := f27) rfl
  exact ⟨⟨["folds", "level", "place"], [(3, [])], _, _, _, _, _, _, fd, n27, by kernel_rfl, F, s27, k27, rfl, rfl, He.glo_ok X G (c.d.fact 15 (f := .glo "shade") rfl), F.kp, (bindSh_cons (bindSh_pos rfl (fun s us hl => FunD.bindsA (ps := ["folds", "level", "place"]) F (fun _ _ _ _ _ _ us hl => match us, hl with | [_, _, _], _ => rfl) s us hl)) bindSh_nil)⟩⟩
theorem d28 (X : K.In h) (G : h.Ns mainGlobals mg) (c : SaysX ex fa fn K) : DefOk g K mg "check_level" ⟨3, 3, c28⟩ := by
  obtain ⟨fd, F⟩ := c.d.def_ 28 (d := f28) rfl
  exact ⟨⟨["ground", "folds", "level"], [(3, [])], _, _, _, _, _, _, fd, n28, by kernel_rfl, F, s28, k28, rfl, rfl, He.glo_ok X G (c.d.fact 16 (f := .glo "check_level") rfl), F.kp, (bindSh_cons (bindSh_pos rfl (fun s us hl => FunD.bindsA (ps := ["ground", "folds", "level"]) F (fun _ _ _ _ _ _ us hl => match us, hl with | [_, _, _], _ => rfl) s us hl)) bindSh_nil)⟩⟩
theorem d29 (X : K.In h) (G : h.Ns mainGlobals mg) (c : SaysX ex fa fn K) : DefOk g K mg "shadow" ⟨4, 4, c29⟩ := by
  obtain ⟨fd, F⟩ := c.d.def_ 29 (d := f29) rfl
  exact ⟨⟨["ground", "folds", "level", "place"], [(0, ["place", "level", "folds", "ground"]), (4, [])], _, _, _, _, _, _, fd, n29, by kernel_rfl, F, s29, k29, rfl, rfl, He.glo_ok X G (c.d.fact 17 (f := .glo "shadow") rfl), F.kp, (bindSh_cons ((bindSh_kw (o := [3, 2, 1, 0]) F (by decide +kernel) fun kV doc pm an cdv ct us ws zs l1 l2 hp => by match us, ws, l1, l2, hp with | [], [w0, w1, w2, w3], _, _, hp => cases hp; rfl)) (bindSh_cons (bindSh_pos rfl (fun s us hl => FunD.bindsA (ps := ["ground", "folds", "level", "place"]) F (fun _ _ _ _ _ _ us hl => match us, hl with | [_, _, _, _], _ => rfl) s us hl)) bindSh_nil))⟩⟩
theorem d30 (X : K.In h) (G : h.Ns mainGlobals mg) (c : SaysX ex fa fn K) : DefOk g K mg "follow" ⟨4, 4, c30⟩ := by
  obtain ⟨fd, F⟩ := c.d.def_ 30 (d := f30) rfl
  exact ⟨⟨["ground", "folds", "level", "place"], [(4, [])], _, _, _, _, _, _, fd, n30, by kernel_rfl, F, s30, k30, rfl, rfl, He.glo_ok X G (c.d.fact 18 (f := .glo "follow") rfl), F.kp, (bindSh_cons (bindSh_pos rfl (fun s us hl => FunD.bindsA (ps := ["ground", "folds", "level", "place"]) F (fun _ _ _ _ _ _ us hl => match us, hl with | [_, _, _, _], _ => rfl) s us hl)) bindSh_nil)⟩⟩
theorem d31 (X : K.In h) (G : h.Ns mainGlobals mg) (c : SaysX ex fa fn K) : DefOk g K mg "_law_stream" ⟨1, 1, c31⟩ := by
  obtain ⟨fd, F⟩ := c.d.def_ 31 (d := f31) rfl
  exact ⟨⟨["script"], [(1, [])], _, _, _, _, _, _, fd, n31, by kernel_rfl, F, s31, k31, rfl, rfl, He.glo_ok X G (c.d.fact 19 (f := .glo "_law_stream") rfl), F.kp, (bindSh_cons (bindSh_pos rfl (fun s us hl => FunD.bindsA (ps := ["script"]) F (fun _ _ _ _ _ _ us hl => match us, hl with | [_], _ => rfl) s us hl)) bindSh_nil)⟩⟩
theorem d32 (X : K.In h) (G : h.Ns mainGlobals mg) (c : SaysX ex fa fn K) : DefOk g K mg "_law_draw" ⟨2, 5, c32⟩ := by
  obtain ⟨fd, F⟩ := c.d.def_ 32 (d := f32) rfl
  exact ⟨⟨["stream", "many"], [(2, [])], _, _, _, _, _, _, fd, n32, by kernel_rfl, F, s32, k32, rfl, rfl, He.glo_ok X G (c.d.fact 20 (f := .glo "_law_draw") rfl), F.kp, (bindSh_cons (bindSh_pos rfl (fun s us hl => FunD.bindsA (ps := ["stream", "many"]) F (fun _ _ _ _ _ _ us hl => match us, hl with | [_, _], _ => rfl) s us hl)) bindSh_nil)⟩⟩
theorem d33 (X : K.In h) (G : h.Ns mainGlobals mg) (c : SaysX ex fa fn K) : DefOk g K mg "_law_pick" ⟨2, 2, c33⟩ := by
  obtain ⟨fd, F⟩ := c.d.def_ 33 (d := f33) rfl
  exact ⟨⟨["stream", "things"], [(2, [])], _, _, _, _, _, _, fd, n33, by kernel_rfl, F, s33, k33, rfl, rfl, He.glo_ok X G (c.d.fact 21 (f := .glo "_law_pick") rfl), F.kp, (bindSh_cons (bindSh_pos rfl (fun s us hl => FunD.bindsA (ps := ["stream", "things"]) F (fun _ _ _ _ _ _ us hl => match us, hl with | [_, _], _ => rfl) s us hl)) bindSh_nil)⟩⟩
theorem d34 (X : K.In h) (G : h.Ns mainGlobals mg) (c : SaysX ex fa fn K) : DefOk g K mg "_law_mixed" ⟨2, 5, c34⟩ := by
  obtain ⟨fd, F⟩ := c.d.def_ 34 (d := f34) rfl
  exact ⟨⟨["stream", "things"], [(2, [])], _, _, _, _, _, _, fd, n34, by kernel_rfl, F, s34, k34, rfl, rfl, He.glo_ok X G (c.d.fact 22 (f := .glo "_law_mixed") rfl), F.kp, (bindSh_cons (bindSh_pos rfl (fun s us hl => FunD.bindsA (ps := ["stream", "things"]) F (fun _ _ _ _ _ _ us hl => match us, hl with | [_, _], _ => rfl) s us hl)) bindSh_nil)⟩⟩
theorem d35 (X : K.In h) (G : h.Ns mainGlobals mg) (c : SaysX ex fa fn K) : DefOk g K mg "_law_same" ⟨2, 4, c35⟩ := by
  obtain ⟨fd, F⟩ := c.d.def_ 35 (d := f35) rfl
  exact ⟨⟨["found", "due"], [(2, [])], _, _, _, _, _, _, fd, n35, by kernel_rfl, F, s35, k35, rfl, rfl, He.glo_ok X G (c.d.fact 23 (f := .glo "_law_same") rfl), F.kp, (bindSh_cons (bindSh_pos rfl (fun s us hl => FunD.bindsA (ps := ["found", "due"]) F (fun _ _ _ _ _ _ us hl => match us, hl with | [_, _], _ => rfl) s us hl)) bindSh_nil)⟩⟩
theorem d36 (X : K.In h) (G : h.Ns mainGlobals mg) (c : SaysX ex fa fn K) : DefOk g K mg "_law_loose" ⟨2, 4, c36⟩ := by
  obtain ⟨fd, F⟩ := c.d.def_ 36 (d := f36) rfl
  exact ⟨⟨["stream", "thing"], [(2, [])], _, _, _, _, _, _, fd, n36, by kernel_rfl, F, s36, k36, rfl, rfl, He.glo_ok X G (c.d.fact 24 (f := .glo "_law_loose") rfl), F.kp, (bindSh_cons (bindSh_pos rfl (fun s us hl => FunD.bindsA (ps := ["stream", "thing"]) F (fun _ _ _ _ _ _ us hl => match us, hl with | [_, _], _ => rfl) s us hl)) bindSh_nil)⟩⟩
theorem d37 (X : K.In h) (G : h.Ns mainGlobals mg) (c : SaysX ex fa fn K) : DefOk g K mg "_law_names" ⟨2, 8, c37⟩ := by
  obtain ⟨fd, F⟩ := c.d.def_ 37 (d := f37) rfl
  exact ⟨⟨["stream", "many"], [(2, [])], _, _, _, _, _, _, fd, n37, by kernel_rfl, F, s37, k37, rfl, rfl, He.glo_ok X G (c.d.fact 25 (f := .glo "_law_names") rfl), F.kp, (bindSh_cons (bindSh_pos rfl (fun s us hl => FunD.bindsA (ps := ["stream", "many"]) F (fun _ _ _ _ _ _ us hl => match us, hl with | [_, _], _ => rfl) s us hl)) bindSh_nil)⟩⟩
theorem d38 (X : K.In h) (G : h.Ns mainGlobals mg) (c : SaysX ex fa fn K) : DefOk g K mg "_law_around" ⟨2, 3, c38⟩ := by
  obtain ⟨fd, F⟩ := c.d.def_ 38 (d := f38) rfl
  exact ⟨⟨["ground", "place"], [(2, [])], _, _, _, _, _, _, fd, n38, by kernel_rfl, F, s38, k38, rfl, rfl, He.glo_ok X G (c.d.fact 26 (f := .glo "_law_around") rfl), F.kp, (bindSh_cons (bindSh_pos rfl (fun s us hl => FunD.bindsA (ps := ["ground", "place"]) F (fun _ _ _ _ _ _ us hl => match us, hl with | [_, _], _ => rfl) s us hl)) bindSh_nil)⟩⟩
theorem d39 (X : K.In h) (G : h.Ns mainGlobals mg) (c : SaysX ex fa fn K) : DefOk g K mg "_law_folds" ⟨3, 5, c39⟩ := by
  obtain ⟨fd, F⟩ := c.d.def_ 39 (d := f39) rfl
  exact ⟨⟨["ground", "place", "other"], [(3, [])], _, _, _, _, _, _, fd, n39, by kernel_rfl, F, s39, k39, rfl, rfl, He.glo_ok X G (c.d.fact 27 (f := .glo "_law_folds") rfl), F.kp, (bindSh_cons (bindSh_pos rfl (fun s us hl => FunD.bindsA (ps := ["ground", "place", "other"]) F (fun _ _ _ _ _ _ us hl => match us, hl with | [_, _, _], _ => rfl) s us hl)) bindSh_nil)⟩⟩
theorem d40 (X : K.In h) (G : h.Ns mainGlobals mg) (c : SaysX ex fa fn K) : DefOk g K mg "_law_less" ⟨2, 4, c40⟩ := by
  obtain ⟨fd, F⟩ := c.d.def_ 40 (d := f40) rfl
  exact ⟨⟨["ground", "place"], [(2, [])], _, _, _, _, _, _, fd, n40, by kernel_rfl, F, s40, k40, rfl, rfl, He.glo_ok X G (c.d.fact 28 (f := .glo "_law_less") rfl), F.kp, (bindSh_cons (bindSh_pos rfl (fun s us hl => FunD.bindsA (ps := ["ground", "place"]) F (fun _ _ _ _ _ _ us hl => match us, hl with | [_, _], _ => rfl) s us hl)) bindSh_nil)⟩⟩
theorem d41 (X : K.In h) (G : h.Ns mainGlobals mg) (c : SaysX ex fa fn K) : DefOk g K mg "_law_all_folds" ⟨1, 4, c41⟩ := by
  obtain ⟨fd, F⟩ := c.d.def_ 41 (d := f41) rfl
  exact ⟨⟨["ground"], [(1, [])], _, _, _, _, _, _, fd, n41, by kernel_rfl, F, s41, k41, rfl, rfl, He.glo_ok X G (c.d.fact 29 (f := .glo "_law_all_folds") rfl), F.kp, (bindSh_cons (bindSh_pos rfl (fun s us hl => FunD.bindsA (ps := ["ground"]) F (fun _ _ _ _ _ _ us hl => match us, hl with | [_], _ => rfl) s us hl)) bindSh_nil)⟩⟩
theorem d42 (X : K.In h) (G : h.Ns mainGlobals mg) (c : SaysX ex fa fn K) : DefOk g K mg "_law_down" ⟨2, 4, c42⟩ := by
  obtain ⟨fd, F⟩ := c.d.def_ 42 (d := f42) rfl
  exact ⟨⟨["stream", "ground"], [(2, [])], _, _, _, _, _, _, fd, n42, by kernel_rfl, F, s42, k42, rfl, rfl, He.glo_ok X G (c.d.fact 30 (f := .glo "_law_down") rfl), F.kp, (bindSh_cons (bindSh_pos rfl (fun s us hl => FunD.bindsA (ps := ["stream", "ground"]) F (fun _ _ _ _ _ _ us hl => match us, hl with | [_, _], _ => rfl) s us hl)) bindSh_nil)⟩⟩
theorem d43 (X : K.In h) (G : h.Ns mainGlobals mg) (c : SaysX ex fa fn K) : DefOk g K mg "_law_shadow" ⟨3, 5, c43⟩ := by
  obtain ⟨fd, F⟩ := c.d.def_ 43 (d := f43) rfl
  exact ⟨⟨["folds", "level", "place"], [(3, [])], _, _, _, _, _, _, fd, n43, by kernel_rfl, F, s43, k43, rfl, rfl, He.glo_ok X G (c.d.fact 31 (f := .glo "_law_shadow") rfl), F.kp, (bindSh_cons (bindSh_pos rfl (fun s us hl => FunD.bindsA (ps := ["folds", "level", "place"]) F (fun _ _ _ _ _ _ us hl => match us, hl with | [_, _, _], _ => rfl) s us hl)) bindSh_nil)⟩⟩
theorem d44 (X : K.In h) (G : h.Ns mainGlobals mg) (c : SaysX ex fa fn K) : DefOk g K mg "_law_folding" ⟨2, 9, c44⟩ := by
  obtain ⟨fd, F⟩ := c.d.def_ 44 (d := f44) rfl
  exact ⟨⟨["stream", "places"], [(2, [])], _, _, _, _, _, _, fd, n44, by kernel_rfl, F, s44, k44, rfl, rfl, He.glo_ok X G (c.d.fact 32 (f := .glo "_law_folding") rfl), F.kp, (bindSh_cons (bindSh_pos rfl (fun s us hl => FunD.bindsA (ps := ["stream", "places"]) F (fun _ _ _ _ _ _ us hl => match us, hl with | [_, _], _ => rfl) s us hl)) bindSh_nil)⟩⟩
theorem d45 (X : K.In h) (G : h.Ns mainGlobals mg) (c : SaysX ex fa fn K) : DefOk g K mg "_law_far" ⟨2, 8, c45⟩ := by
  obtain ⟨fd, F⟩ := c.d.def_ 45 (d := f45) rfl
  exact ⟨⟨["ground", "place"], [(2, [])], _, _, _, _, _, _, fd, n45, by kernel_rfl, F, s45, k45, rfl, rfl, He.glo_ok X G (c.d.fact 33 (f := .glo "_law_far") rfl), F.kp, (bindSh_cons (bindSh_pos rfl (fun s us hl => FunD.bindsA (ps := ["ground", "place"]) F (fun _ _ _ _ _ _ us hl => match us, hl with | [_, _], _ => rfl) s us hl)) bindSh_nil)⟩⟩
theorem d46 (X : K.In h) (G : h.Ns mainGlobals mg) (c : SaysX ex fa fn K) : DefOk g K mg "_law_made" ⟨2, 4, c46⟩ := by
  obtain ⟨fd, F⟩ := c.d.def_ 46 (d := f46) rfl
  exact ⟨⟨["stream", "ground"], [(2, [])], _, _, _, _, _, _, fd, n46, by kernel_rfl, F, s46, k46, rfl, rfl, He.glo_ok X G (c.d.fact 34 (f := .glo "_law_made") rfl), F.kp, (bindSh_cons (bindSh_pos rfl (fun s us hl => FunD.bindsA (ps := ["stream", "ground"]) F (fun _ _ _ _ _ _ us hl => match us, hl with | [_, _], _ => rfl) s us hl)) bindSh_nil)⟩⟩
theorem d47 (X : K.In h) (G : h.Ns mainGlobals mg) (c : SaysX ex fa fn K) : DefOk g K mg "_law_run_right" ⟨4, 16, c47⟩ := by
  obtain ⟨fd, F⟩ := c.d.def_ 47 (d := f47) rfl
  exact ⟨⟨["stream", "ground", "made", "folds"], [(4, [])], _, _, _, _, _, _, fd, n47, by kernel_rfl, F, s47, k47, rfl, rfl, He.glo_ok X G (c.d.fact 35 (f := .glo "_law_run_right") rfl), F.kp, (bindSh_cons (bindSh_pos rfl (fun s us hl => FunD.bindsA (ps := ["stream", "ground", "made", "folds"]) F (fun _ _ _ _ _ _ us hl => match us, hl with | [_, _, _, _], _ => rfl) s us hl)) bindSh_nil)⟩⟩
end
end Lw
/-! LawU -/
namespace Lw
open PySem PySem.Spec PyProof.Rows L2 Ev
def tbl : List (PySem.Str × FnI) := ([("is_list", ⟨1, 1, c0⟩), ("is_whole", ⟨1, 1, c1⟩), ("is_number", ⟨1, 1, c2⟩), ("is_row", ⟨2, 2, c3⟩), ("is_name", ⟨1, 2, c4⟩), ("is_index", ⟨2, 2, c5⟩), ("first_bad_place", ⟨1, 4, c12⟩), ("is_place", ⟨2, 2, c19⟩)] : List (PySem.Str × FnI)) ++ ([("check_place", ⟨2, 2, c20⟩), ("check_ground", ⟨1, 1, c21⟩), ("without_of", ⟨2, 5, c22⟩), ("holds", ⟨2, 2, c23⟩), ("folds_of", ⟨3, 4, c24⟩), ("gone_through", ⟨2, 4, c25⟩), ("rest_of", ⟨2, 4, c26⟩), ("shade", ⟨3, 5, c27⟩)] : List (PySem.Str × FnI)) ++ ([("check_level", ⟨3, 3, c28⟩), ("shadow", ⟨4, 4, c29⟩), ("follow", ⟨4, 4, c30⟩), ("_law_stream", ⟨1, 1, c31⟩), ("_law_draw", ⟨2, 5, c32⟩), ("_law_pick", ⟨2, 2, c33⟩), ("_law_mixed", ⟨2, 5, c34⟩), ("_law_same", ⟨2, 4, c35⟩)] : List (PySem.Str × FnI)) ++ ([("_law_loose", ⟨2, 4, c36⟩), ("_law_names", ⟨2, 8, c37⟩), ("_law_around", ⟨2, 3, c38⟩), ("_law_folds", ⟨3, 5, c39⟩), ("_law_less", ⟨2, 4, c40⟩), ("_law_all_folds", ⟨1, 4, c41⟩), ("_law_down", ⟨2, 4, c42⟩), ("_law_shadow", ⟨3, 5, c43⟩)] : List (PySem.Str × FnI)) ++ ([("_law_folding", ⟨2, 9, c44⟩), ("_law_far", ⟨2, 8, c45⟩), ("_law_made", ⟨2, 4, c46⟩), ("_law_run_right", ⟨4, 16, c47⟩)] : List (PySem.Str × FnI))
def tb (key : PySem.Str × Option PySem.Str) : Option FnI := match key.2 with
  | none => tbl.lookup key.1
  | some _ => none
section
variable {K : PySem.W.Frag} {h : Heap} {mg : PySem.Str → Option Value}
theorem fnames : g.fns.map (·.1) = (["is_list", "is_whole", "is_number", "is_row", "is_name", "is_index", "first_bad_place", "is_place"] : List (PySem.Str)) ++ (["check_place", "check_ground", "without_of", "holds", "folds_of", "gone_through", "rest_of", "shade"] : List (PySem.Str)) ++ (["check_level", "shadow", "follow", "_law_stream", "_law_draw", "_law_pick", "_law_mixed", "_law_same"] : List (PySem.Str)) ++ (["_law_loose", "_law_names", "_law_around", "_law_folds", "_law_less", "_law_all_folds", "_law_down", "_law_shadow"] : List (PySem.Str)) ++ (["_law_folding", "_law_far", "_law_made", "_law_run_right"] : List (PySem.Str)) := by kernel_rfl
theorem fns_ok (X : K.In h) (G : h.Ns mainGlobals mg) (c : SaysX ex fa fn K) : ∀ x ∈ g.fns.map (·.1), ∃ fi, tb (x, none) = some fi ∧ DefOk g K mg x fi := by
  rw [fnames]
  intro x hx
  simp only [List.mem_append, List.mem_cons, List.not_mem_nil, or_false] at hx
  rcases hx with (((((rfl | rfl | rfl | rfl | rfl | rfl | rfl | rfl) | (rfl | rfl | rfl | rfl | rfl | rfl | rfl | rfl)) | (rfl | rfl | rfl | rfl | rfl | rfl | rfl | rfl)) | (rfl | rfl | rfl | rfl | rfl | rfl | rfl | rfl)) | (rfl | rfl | rfl | rfl))
  · exact ⟨_, by kernel_rfl, d0 X G c⟩
  · exact ⟨_, by kernel_rfl, d1 X G c⟩
  · exact ⟨_, by kernel_rfl, d2 X G c⟩
  · exact ⟨_, by kernel_rfl, d3 X G c⟩
  · exact ⟨_, by kernel_rfl, d4 X G c⟩
  · exact ⟨_, by kernel_rfl, d5 X G c⟩
  · exact ⟨_, by kernel_rfl, d12 X G c⟩
  · exact ⟨_, by kernel_rfl, d19 X G c⟩
  · exact ⟨_, by kernel_rfl, d20 X G c⟩
  · exact ⟨_, by kernel_rfl, d21 X G c⟩
  · exact ⟨_, by kernel_rfl, d22 X G c⟩
  · exact ⟨_, by kernel_rfl, d23 X G c⟩
  · exact ⟨_, by kernel_rfl, d24 X G c⟩
  · exact ⟨_, by kernel_rfl, d25 X G c⟩
  · exact ⟨_, by kernel_rfl, d26 X G c⟩
  · exact ⟨_, by kernel_rfl, d27 X G c⟩
  · exact ⟨_, by kernel_rfl, d28 X G c⟩
  · exact ⟨_, by kernel_rfl, d29 X G c⟩
  · exact ⟨_, by kernel_rfl, d30 X G c⟩
  · exact ⟨_, by kernel_rfl, d31 X G c⟩
  · exact ⟨_, by kernel_rfl, d32 X G c⟩
  · exact ⟨_, by kernel_rfl, d33 X G c⟩
  · exact ⟨_, by kernel_rfl, d34 X G c⟩
  · exact ⟨_, by kernel_rfl, d35 X G c⟩
  · exact ⟨_, by kernel_rfl, d36 X G c⟩
  · exact ⟨_, by kernel_rfl, d37 X G c⟩
  · exact ⟨_, by kernel_rfl, d38 X G c⟩
  · exact ⟨_, by kernel_rfl, d39 X G c⟩
  · exact ⟨_, by kernel_rfl, d40 X G c⟩
  · exact ⟨_, by kernel_rfl, d41 X G c⟩
  · exact ⟨_, by kernel_rfl, d42 X G c⟩
  · exact ⟨_, by kernel_rfl, d43 X G c⟩
  · exact ⟨_, by kernel_rfl, d44 X G c⟩
  · exact ⟨_, by kernel_rfl, d45 X G c⟩
  · exact ⟨_, by kernel_rfl, d46 X G c⟩
  · exact ⟨_, by kernel_rfl, d47 X G c⟩
theorem blt_ok (X : K.In h) (G : h.Ns mainGlobals mg) (c : SaysX ex fa fn K) : ∀ x ∈ bltN, mg x = none := by
  intro x hx
  simp only [bltN, List.mem_cons, List.not_mem_nil, or_false] at hx
  rcases hx with rfl | rfl | rfl | rfl | rfl | rfl | rfl | rfl | rfl | rfl | rfl | rfl | rfl | rfl | rfl | rfl | rfl
  · exact He.free_ok X G (c.d.fact 45 (f := .free "range") rfl)
  · exact He.free_ok X G (c.d.fact 46 (f := .free "enumerate") rfl)
  · exact He.free_ok X G (c.d.fact 47 (f := .free "zip") rfl)
  · exact He.free_ok X G (c.d.fact 48 (f := .free "isinstance") rfl)
  · exact He.free_ok X G (c.d.fact 49 (f := .free "len") rfl)
  · exact He.free_ok X G (c.d.fact 50 (f := .free "sorted") rfl)
  · exact He.free_ok X G (c.d.fact 51 (f := .free "list") rfl)
  · exact He.free_ok X G (c.d.fact 52 (f := .free "tuple") rfl)
  · exact He.free_ok X G (c.d.fact 53 (f := .free "all") rfl)
  · exact He.free_ok X G (c.d.fact 54 (f := .free "any") rfl)
  · exact He.free_ok X G (c.d.fact 55 (f := .free "min") rfl)
  · exact He.free_ok X G (c.d.fact 56 (f := .free "max") rfl)
  · exact He.free_ok X G (c.d.fact 57 (f := .free "int") rfl)
  · exact He.free_ok X G (c.d.fact 58 (f := .free "abs") rfl)
  · exact He.free_ok X G (c.d.fact 59 (f := .free "dict") rfl)
  · exact He.free_ok X G (c.d.fact 60 (f := .free "bool") rfl)
  · exact He.free_ok X G (c.d.fact 61 (f := .free "str") rfl)
theorem cst_ok (X : K.In h) (G : h.Ns mainGlobals mg) (c : SaysX ex fa fn K) {C : Ev.Ctx} : ∀ x d, g.cst.lookup x = some d → ∃ u v, mg x = some u ∧ RelV v u ∧ ∀ θ F, R C θ F d v := by
  intro x d e
  have e := lookup_mem' e
  simp only [g, List.mem_cons, Prod.mk.injEq, List.not_mem_nil, or_false] at e
  rcases e with ⟨rfl, rfl⟩
  · obtain ⟨t, q⟩ := He.str_ok X G (c.d.fact 73 (f := .str "LETTERS" "abcdefghijklmnopqrstuvwxyz") rfl)
    exact ⟨_, .str _, q, ⟨t, rfl⟩, fun _ _ => rfl⟩
theorem cnames : g.cls.map (·.1) = (["Ground"] : List (PySem.Str)) := by kernel_rfl
theorem clm_ok (X : K.In h) (G : h.Ns mainGlobals mg) (c : SaysX ex fa fn K) : ∀ x ∈ g.cls.map (·.1), mg x = some (.ref (He.ga K x)) ∧ Cls K (He.ga K x) := by
  rw [cnames]
  intro x hx
  simp only [List.mem_append, List.mem_cons, List.not_mem_nil, or_false] at hx
  rcases hx with (rfl)
  · exact ⟨He.glo_ok X G (c.d.fact 44 (f := .glo "Ground") rfl), He.cls_ok (c.d.fact 62 (f := .cls "Ground") rfl)⟩
theorem fld_ok (X : K.In h) (G : h.Ns mainGlobals mg) (c : SaysX ex fa fn K) : ∀ f cs, g.fld.lookup f = some cs → ∀ x ∈ cs, Cls K (He.ga K x) ∧ NoAttr K (He.ga K x) f := by
  intro f cs e
  have e := lookup_mem' e
  simp only [g, List.mem_cons, Prod.mk.injEq, List.not_mem_nil, or_false] at e
  rcases e with ⟨rfl, rfl⟩ | ⟨rfl, rfl⟩ | ⟨rfl, rfl⟩
  · intro x hx
    simp only [List.mem_cons, List.not_mem_nil, or_false] at hx
    rcases hx with rfl
    · exact ⟨He.cls_ok (c.d.fact 62 (f := .cls "Ground") rfl), He.noat_ok (c.d.fact 70 (f := .noat "Ground" "own_places") rfl)⟩
  · intro x hx
    simp only [List.mem_cons, List.not_mem_nil, or_false] at hx
    rcases hx with rfl
    · exact ⟨He.cls_ok (c.d.fact 62 (f := .cls "Ground") rfl), He.noat_ok (c.d.fact 71 (f := .noat "Ground" "own_paths") rfl)⟩
  · intro x hx
    simp only [List.mem_cons, List.not_mem_nil, or_false] at hx
    rcases hx with rfl
    · exact ⟨He.cls_ok (c.d.fact 62 (f := .cls "Ground") rfl), He.noat_ok (c.d.fact 72 (f := .noat "Ground" "own_around") rfl)⟩
theorem stat_of (X : K.In h) (G : h.Ns mainGlobals mg) (c : SaysX ex fa fn K) {pr : PrimF} {P : Program} {w : World} {base : Heap} (hp : ∀ x ps sh, g.fns.lookup x = some (ps, sh) → ∀ k, pr k (x, none) = none)
    (hc : ∀ x ps sh, g.cls.lookup x = some (ps, sh) → ∃ f fd sl, Mk K (He.ga K x) f ∧ Binds K fd (sl :: ps) [] ∧ ∀ k, GOk g (ctxOf K w) (callF tb pr k) P w K mg base (3 * k) → FnOk P w K mg base Ev.CX0 (3 * k + 3) f fd (sl :: ps) (spI (ctxOf K w) (callF tb pr (k + 1)) ps.length x)) :
    Stat g (ctxOf K w) tb pr P w K mg base :=
  ⟨rfl, blt_ok X G c, cst_ok X G c, by rw [cnames]; exact clsEnv_of c.x (fun x hx => (clm_ok X G c x (by rw [cnames]; exact hx)).2), fun x hx => (clm_ok X G c x hx).1, fld_ok X G c,
    fun x ps sh e => ⟨hp x ps sh e, fns_ok X G c x (lookup_key e)⟩, hc⟩
end
end Lw
/-! LawV -/
namespace Lw
open PySem PySem.Spec PyProof.Rows L2 Ev
def nL : List PySem.Str := ["script", "stream", "turn", "ground", "folds"]
def restL : List Stmt := f48.body.drop 1
def cL : List Is := (mapO (compS g nL f48.scope 30) restL).getD []
theorem kL : mapO (compS g nL f48.scope 30) restL = some cL := by
  have h : (mapO (compS g nL f48.scope 30) restL).isSome = true := by kernel_rfl
  obtain ⟨x, e⟩ := Option.isSome_iff_exists.mp h
  unfold cL
  rw [e]
  rfl
theorem sL : fnScopeB nL ["script"] f48.scope = true := by kernel_rfl
abbrev Hc (pr : PrimF) : Prop := ∀ (P : Program) (w : World) (K : PySem.W.Frag) (mg : PySem.Str → Option Value) (h base : Heap), K.In h → h.Ns mainGlobals mg → SaysX ex fa fn K → K.In base → base.Ns mainGlobals mg →
  ∀ x ps sh, g.cls.lookup x = some (ps, sh) → ∃ f fd sl, Mk K (He.ga K x) f ∧ Binds K fd (sl :: ps) [] ∧ ∀ k, GOk g (ctxOf K w) (callF tb pr k) P w K mg base (3 * k) → FnOk P w K mg base Ev.CX0 (3 * k + 3) f fd (sl :: ps) (spI (ctxOf K w) (callF tb pr (k + 1)) ps.length x)
theorem law_ok {pr : PrimF} {k : Nat} (hp : ∀ x ps sh, g.fns.lookup x = some (ps, sh) → ∀ k, pr k (x, none) = none) (hc : Hc pr) {P : Program} {w : World} {K : PySem.W.Frag} {mg : PySem.Str → Option Value} {h : Heap} {f : Addr} (X : K.In h) (G : h.Ns mainGlobals mg) (hfa : mg ("law" : PySem.Str) = some (.ref f)) (c : SaysX ex fa fn K) :
    ∃ fd : FuncData, (∀ (s : Shared) (v : Value), BindsTo s fd ⟨[v], []⟩ [("script", v)]) ∧ ∀ (ns : List Int) (env1 : Ev.Env) (st1 : Sst), exB (callF tb pr k) cL ((List.replicate nL.length none).set 1 (some (.fz (.tok 0)))) (some ⟨ns, 0, 0, 19⟩) = some (.rt (.fz (.bl true)), env1, st1) →
      ∀ base : Heap, K.In base → base.Ns mainGlobals mg → FnOk P w K mg base Ev.CX0 (3 * k + 2) f fd ["script"] (Ev.spLaw K ns) := by
  obtain ⟨fdS, FS⟩ := c.d.def_ 31 (d := f31) rfl
  obtain ⟨fd, F⟩ := c.d.def_ 48 (d := f48) rfl
  have e := hfa.symm.trans (He.glo_ok X G (c.d.fact 36 (f := .glo "law") rfl))
  cases e
  have b := FunD.bindsA (ps := ["script"]) F fun _ _ _ _ _ _ us hl => match us, hl with | [_], _ => rfl
  refine ⟨fd, fun s v => b s [v] rfl, fun ns env1 st1 hrun base hK hN => ?_⟩
  have ST := stat_of (w := w) (P := P) (base := base) X G c hp (hc P w K mg h base X G c hK hN)
  have GK := levels ST k
  have FSo : FnOk P w K mg base Ev.CX0 1 (He.fAd K f31.at_) fdS ["script"] (Ev.spS K) := Ev.stream_fn (k := 0) FS (fnScope_of (by kernel_rfl)) (by kernel_rfl) (by kernel_rfl) (ST.blt _ (by decide))
  exact Ev.law_fn GK F sL (j := 1) (by decide) (by decide) (by kernel_rfl) (by kernel_rfl) (by decide) (by kernel_rfl) (He.glo_ok X G (c.d.fact 19 (f := .glo "_law_stream") rfl)) FS.kp FSo (FS.bindsN fun _ _ _ _ _ _ us hl => match us, hl with | [_], _ => rfl) kL hrun
end Lw
/-! LawW -/
namespace Lw
open PySem PySem.Spec PyProof.Rows L2 Ev
abbrev cs : List Str := ["Ground"]
noncomputable def pr : PrimF := fun k key => if 6 ≤ k ∧ key = (("Ground" : Str), some ("__init__" : Str)) then some groundP else none
theorem pr_fn (k : Nat) (x : Str) : pr k (x, none) = none := by
  unfold pr
  rw [if_neg (fun h => by cases h.2)]
theorem pr_yes {k : Nat} (h : 6 ≤ k) : pr k ("Ground", some "__init__") = some groundP := by
  unfold pr
  rw [if_pos ⟨h, rfl⟩]
theorem pr_no {k : Nat} (h : ¬ 6 ≤ k) (key : Str × Option Str) : pr k key = none := by
  unfold pr
  rw [if_neg (fun z => h z.1)]
theorem com : Com tb pr cs where
  p := pr_fn
  gr := by kernel_rfl
  is_list := by kernel_rfl
  is_whole := by kernel_rfl
  is_number := by kernel_rfl
  is_row := by kernel_rfl
  is_name := by kernel_rfl
  is_index := by kernel_rfl
  first_bad_place := by kernel_rfl
  is_place := by kernel_rfl
  check_place := by kernel_rfl
  check_ground := by kernel_rfl
  law_draw := by kernel_rfl
  law_pick := by kernel_rfl
  law_mixed := by kernel_rfl
  law_same := by kernel_rfl
  law_loose := by kernel_rfl
  law_names := by kernel_rfl
  law_around := by kernel_rfl
theorem hc : Hc pr := by
  intro P w K mg h base X G c hK hN x ps sh e
  have e := lookup_mem' e
  simp only [g, List.mem_cons, Prod.mk.injEq, List.not_mem_nil, or_false] at e
  obtain ⟨rfl, rfl, rfl⟩ := e
  obtain ⟨fd, F⟩ := c.d.def_ 13 (d := f13) rfl
  obtain ⟨fdp, Fp⟩ := c.d.def_ 14 (d := f14) rfl
  refine ⟨_, fd, "self", He.mkr_ok (c.d.fact 63 (f := .mkr "Ground") rfl), F.bindsN fun _ _ _ _ _ _ us hl => match us, hl with | [_, _, _], _ => rfl, fun k GK => ?_⟩
  by_cases hk : 6 ≤ k
  · obtain ⟨k', rfl⟩ : ∃ k', k = k' + 6 := ⟨k - 6, by omega⟩
    have bp : Binds K fdp ["self", "thing"] [] := Fp.bindsN fun _ _ _ _ _ _ us hl => match us, hl with | [_, _], _ => rfl
    have FG := ground_fn (cs := cs) GK com (Np := ["self", "thing", "place"]) Fp (by kernel_rfl) (by kernel_rfl) (by kernel_rfl) bp (He.cls_ok (c.d.fact 62 (f := .cls "Ground") rfl)) (He.noat_ok (c.d.fact 70 (f := .noat "Ground" "own_places") rfl)) (He.noat_ok (c.d.fact 71 (f := .noat "Ground" "own_paths") rfl)) (He.noat_ok (c.d.fact 72 (f := .noat "Ground" "own_around") rfl)) (He.meth_ok (c.d.fact 65 (f := .meth "Ground" "is_pair") rfl))
      (by kernel_rfl) (by kernel_rfl) (by kernel_rfl) (by kernel_rfl) (He.free_ok X G (c.d.fact 46 (f := .free "enumerate") rfl)) (He.free_ok X G (c.d.fact 50 (f := .free "sorted") rfl)) (by kernel_rfl) (by kernel_rfl) (by kernel_rfl) (by kernel_rfl) (by kernel_rfl) (by kernel_rfl) (by kernel_rfl) (by kernel_rfl) (by kernel_rfl) (by kernel_rfl) (by kernel_rfl) (by kernel_rfl) (by kernel_rfl) (by kernel_rfl) (by kernel_rfl) (by kernel_rfl) (by kernel_rfl) (by kernel_rfl) (by kernel_rfl) (by kernel_rfl) F
    refine FG.imp fun vs H Q E q => ?_
    obtain ⟨hl, x, dx, H0, rest, θ, F0, ow, st, as, t, st1, h1, h2, h3, h4, h5, h6, h7, h8, h9⟩ := q
    refine ⟨hl, x, dx, H0, rest, θ, F0, ow, st, as, t, st1, h1, h2, h3, h4, h5, h6, h7, ?_, h9⟩
    unfold callF at h8
    rw [pr_yes hk] at h8
    exact h8
  · refine fn_never fun vs H Q E q => ?_
    obtain ⟨_, _, _, _, _, _, _, _, _, _, _, _, _, _, _, _, _, _, _, h8, _⟩ := q
    unfold callF at h8
    rw [pr_no hk] at h8
    cases h8
end Lw
/-! LawX -/
namespace Lw
open PySem PySem.Spec PyProof.Rows L2 Ev
theorem flds : Flds tb pr cs where
  toCom := com
  without_of := by kernel_rfl
  holds := by kernel_rfl
  folds_of := by kernel_rfl
  gone_through := by kernel_rfl
  rest_of := by kernel_rfl
  shade := by kernel_rfl
  check_level := by kernel_rfl
  shadow := by kernel_rfl
  follow := by kernel_rfl
  law_folds := by kernel_rfl
  law_less := by kernel_rfl
  law_all_folds := by kernel_rfl
  law_down := by kernel_rfl
  law_shadow := by kernel_rfl
  law_folding := by kernel_rfl
  law_far := by kernel_rfl
  law_made := by kernel_rfl
  law_run_right := by kernel_rfl
def bL : List Is := [Is.for (Tg.n 2) (Im.range1) [Ir.k (D.int 5)] [Is.set (Tg.n 3) (Ir.call "_law_folding" [Ir.v 1, Ir.k (D.int 8)] [0, 1]), Is.set (Tg.n 4) (Ir.sub (Ir.call "_law_down" [Ir.v 1, Ir.v 3] [0, 1]) (Ir.k (D.int 0))), Is.iff (Ir.not (Ir.call "_law_run_right" [Ir.v 1, Ir.v 3, Ir.call "_law_made" [Ir.v 1, Ir.v 3] [0, 1], Ir.v 4] [0, 1, 2, 3])) [Is.ret (Ir.k (D.bl false))] []], Is.ret (Ir.k (D.bl true))]
theorem bL_eq : cL = bL := by kernel_rfl
theorem law_run {ns : List Int} (hl : ns.length ≤ 16777216) : ∃ env1 st1, exB (callF tb pr 20) cL ((List.replicate nL.length none).set 1 (some (.fz (.tok 0)))) (some ⟨ns, 0, 0, 19⟩) = some (.rt (.fz (.bl true)), env1, st1) := by
  have HG : ∀ k, pr (k + 6) ("Ground", some "__init__") = some groundP := fun k => pr_yes (by omega)
  rw [bL_eq]
  have ok : Ok 0 (some ⟨ns, 0, 0, 19⟩) := ⟨_, rfl, Int.le_refl 0, Int.le_refl 0, Int.le_refl 0, by show (0 : Int) ≤ 19; decide, by show (19 : Int) < 2147483648; decide, hl⟩
  generalize (some (⟨ns, 0, 0, 19⟩ : S8) : Sst) = st at *
  have main : Rn (exB (callF tb pr 20) bL [none, some (.fz (.tok 0)), none, none, none] st) fun r => r.1 = .rt (.fz (.bl true)) := by
    simp [bL, us, usL, usB, usLB, usS, usO, frz_eq, ownT]
    rw [show rangeD 0 5 = rangeD 0 ((5 : Nat) : Int) from rfl, range_nat (by decide)]
    simp only [rn_some]
    refine for_inv (fun i env st' => ∃ v2 v3 v4, env = [none, some (.fz (.tok 0)), v2, v3, v4] ∧ Ok (1000 * i : Nat) st') ⟨_, _, _, rfl, ok.mono (by omega)⟩ (fun i x env st1 hx hI => ?_) (fun env st1 hI => ?_)
    · obtain ⟨v2, v3, v4, rfl, h1⟩ := hI
      obtain ⟨j, hj, rfl⟩ := get_map hx
      obtain ⟨hjl, hj⟩ := List.getElem?_eq_some_iff.mp hj
      rw [List.length_range] at hjl
      clear hx hj
      simp [us, usL, usB, usLB, usS, usO, frz_eq, ownT]
      refine folding_rn (k := 16) (m0 := 8) flds h1 (by omega) (by decide) (by decide) fun N E st2 g one h2 => ?_
      simp [us, usL, usB, usLB, usS, usO, frz_eq, ownT]
      have h8 := g.l8
      refine down_rn (k := 16) flds g.gd h2 (by omega) fun l E' st3 hf hs h3 => ?_
      obtain ⟨w, r⟩ := rr_of g one hf hs
      simp [us, usL, usB, usLB, usS, usO, frz_eq, ownT]
      refine made_rn (k := 12) flds HG g h3 (by omega) fun d PL EL st4 m h4 => ?_
      simp [us, usL, usB, usLB, usS, usO, frz_eq, ownT]
      refine run_right_rn (k := 6) flds HG g one r m h4 (by omega) fun st5 h5 => ?_
      simp [us, usL, usB, usLB, usS, usO, frz_eq, ownT]
      exact h5.mono (by omega)
    · obtain ⟨v2, v3, v4, rfl, h1⟩ := hI
      simp [us, usL, usB, usLB, usS, usO, frz_eq, ownT]
  obtain ⟨⟨f, env1, st1⟩, e, q⟩ := main
  simp only at q
  subst q
  exact ⟨env1, st1, e⟩
end Lw
/-! LawY -/
namespace Ev
open PySem PySem.Spec PyProof.Rows L2
theorem fn_ex {ι : Type} {q : ι → Prop} {sp : ι → Sp} {P : Program} {w : World} {K : PySem.W.Frag} {mg : Str → Option Value} {base : Heap} {CX : CXT} {k : Nat} {f : Addr} {fd : FuncData} {ps : List Str} (h : ∀ i, q i → FnOk P w K mg base CX k f fd ps (sp i)) :
    FnOk P w K mg base CX k f fd ps fun vs H Q E => ∃ i, q i ∧ sp i vs H Q E :=
  ⟨fun vs H Q E z => z.elim fun i z => (h i z.1).len vs H Q E z.2, fun A outer s H args us vs Q E hr he hb hv z => z.elim fun i z => (h i z.1).run A outer s H args us vs Q E hr he hb hv z.2⟩
end Ev
open PySem PySem.W PySem.Calls PyProof.Rows L2
theorem PySem.Challenge.cw_runaways_k33_whole_the_walkers_rule_holds : PySem.Challenge.rw_runaways_k33_whole_the_walkers_rule.Holds := by
  w_on; o_law
  refine HandSHeadRun.head_any (r := OpenLaw.row PySem.Challenge.rw_runaways_k33_whole_the_walkers_rule) (q := view (OpenLaw.row PySem.Challenge.rw_runaways_k33_whole_the_walkers_rule).prog [50]) (H := Lw.hk) (ob := Lw.ob) (M := 4000) (loose := Lw.nm) (d := HandSHeadRun.topDef (OpenLaw.row PySem.Challenge.rw_runaways_k33_whole_the_walkers_rule).prog 50) (kwd := []) Lw.ob_eq
    (by kernel_rfl) (fun s => by kernel_rfl) Lw.run (by kernel_rfl) (by kernel_rfl) (by kernel_rfl) (by rfl) (by first | assumption | decide +kernel) (by decide +kernel) ⟨rfl, rfl, rfl, rfl, rfl, by decide +kernel⟩ ?hw ?hc
  case hw => w_witness2
  case hc =>
    refine L2.walk_ofE (l := PySem.Challenge.rw_runaways_k33_whole_the_walkers_rule) (n := 63) (k := 62) (x := "script") (CX := Ev.CX0) rfl (by decide) (by kernel_rfl) ⟨rfl, by decide, by decide⟩ ?F (fun _ _ _ _ z => z)
    intro w mg fa h Y G hmg0
    obtain ⟨K, KX, c⟩ := Y
    have hmg : mg ("law" : PySem.Str) = some (.ref fa) := by
      have e : (HandSHeadRun.topDef (OpenLaw.row PySem.Challenge.rw_runaways_k33_whole_the_walkers_rule).prog 50).name = ("law" : PySem.Str) := by kernel_rfl
      rw [← e]
      exact hmg0
    obtain ⟨fd, hb, hF⟩ := Lw.law_ok (k := 20) (fun x _ _ _ k => Lw.pr_fn k x) Lw.hc (P := PySem.Challenge.rw_runaways_k33_whole_the_walkers_rule.prog) (w := w) KX G hmg c
    refine ⟨K, fd, fun vs H Q E => ∃ ns : List Int, ns.length ≤ 63 ∧ Ev.spLaw K ns vs H Q E, KX, hb, fun H a ns hl _ hS => ⟨ns, hl, a, rfl, hS, fun _ => rfl⟩, fun base hK hN => Ev.fn_ex fun ns hl => ?_⟩
    obtain ⟨env1, st1, e⟩ := Lw.law_run (ns := ns) (by omega)
    exact hF ns env1 st1 e base hK hN
