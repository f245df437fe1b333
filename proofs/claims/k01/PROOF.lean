import PyProof.Rows.All
import Wide.All
import OpenK.AllK
import Wide.FinOn
import HandS.ForMost
import HandS.Exc
import HandS.WordsExc
import KE.DataEq
import HandS.Flow
import HandS.Style
import HandS.TupAny
import HandS.TupMul
import HandS.IsInst
import HandS.Zip0
import HandS.Zip
import HandS.Walk
import HandS.TryMany
import PySem.Challenge.RW_fencewatch_k01_watchers_and_worlds_recog
set_option Elab.async false
set_option linter.all false
set_option maxRecDepth 100000
set_option maxHeartbeats 4000000

namespace Fw
open PySem L2 PyProof.Rows

inductive T where
  | non | bl (b : Bool) | int (i : Int) | str (s : Str)
  | tup (l : List T) | lst (l : List T)
  | box (n : Nat) | fn (n : Nat) | scr (l : List Int)

instance : Inhabited T := ⟨.non⟩

inductive Ob where
  | lst (l : List T)
  | dct (l : List (T × T))
  | ins (c : Nat) (fs : List (Nat × T))

abbrev Sto := List Ob
abbrev Rho := List (Option T)

/-- what the walk knows of the run: the written part, the defs', the errors' and the classes' addresses -/
structure GW where
  K : PySem.W.Frag
  fa : Nat → Addr
  ea : Nat → Addr
  fb : List Addr
/-- with other lists under way -/
def GW.w (g : GW) (fb : List Addr) : GW := ⟨g.K, g.fa, g.ea, fb⟩

/-- a tuple that the written part holds -/
def KTup (K : PySem.W.Frag) (a : Addr) (xs : List V) : Prop :=
  ∃ (o : Obj) (its : Array Value) (n : Nat), K.lookup a = some o ∧ o.cls = .type "tuple" ∧ o.data = .seq its n ∧ its.size ≤ sizeLine ∧ Vals xs its.toList

/-- a list that the written part holds -/
def KLst (K : PySem.W.Frag) (a : Addr) (xs : List V) : Prop :=
  ∃ (o : Obj) (its : Array Value) (n : Nat), K.lookup a = some o ∧ o.cls = .type "list" ∧ o.dict = none ∧ o.data = .seq its n ∧ its.size ≤ sizeLine ∧ Vals xs its.toList

mutual
def Rep (g : GW) (m : List Addr) (H : Hp) : T → V → Prop
  | .non, v => v = .non
  | .bl b, v => v = .bl b
  | .int i, v => v = .int i
  | .str s, v => v = .str s
  | .fn f, v => v = .ref (g.fa f)
  | .box n, v => ∃ a, m[n]? = some a ∧ v = .ref a
  | .scr ns, v => ∃ a, v = .ref a ∧ ((a ∉ m ∧ a ∉ g.fb ∧ Rd H a (.lst (ns.map V.int))) ∨ KLst g.K a (ns.map V.int))
  | .tup l, v => ∃ a vs, v = .ref a ∧ ((a ∉ m ∧ a ∉ g.fb ∧ Rd H a (.tup vs)) ∨ KTup g.K a vs) ∧ RepL g m H l vs
  | .lst l, v => ∃ a vs, v = .ref a ∧ a ∉ m ∧ a ∉ g.fb ∧ H a = some (.lst vs) ∧ RepL g m H l vs
def RepL (g : GW) (m : List Addr) (H : Hp) : List T → List V → Prop
  | [], vs => vs = []
  | t :: ts, vs => ∃ v r, vs = v :: r ∧ Rep g m H t v ∧ RepL g m H ts r
end

structure Ext (m : List Addr) (H : Hp) (m' : List Addr) (H' : Hp) : Prop where
  grow : ∃ l, m' = m ++ l ∧ ∀ a ∈ l, H a = none
  keep : ∀ a o, H a = some o → a ∉ m → H' a = some o
  there : ∀ a, a ∈ m → H a ≠ none → H' a ≠ none

theorem Ext.refl (m : List Addr) (H : Hp) : Ext m H m H := ⟨⟨[], by simp, by simp⟩, fun _ _ h _ => h, fun _ _ h => h⟩
theorem Ext.notin {m m' : List Addr} {H H' : Hp} (e : Ext m H m' H') {a : Addr} {o : HO} (h : H a = some o) (hm : a ∉ m) : a ∉ m' := by
  obtain ⟨l, rfl, hl⟩ := e.grow
  intro q
  rcases List.mem_append.mp q with q | q
  · exact hm q
  · have := hl a q; rw [h] at this; cases this
theorem Ext.trans {m m1 m2 : List Addr} {H H1 H2 : Hp} (a : Ext m H m1 H1) (b : Ext m1 H1 m2 H2) : Ext m H m2 H2 := by
  obtain ⟨l1, e1, f1⟩ := a.grow
  obtain ⟨l2, e2, f2⟩ := b.grow
  refine ⟨⟨l1 ++ l2, by rw [e2, e1, List.append_assoc], fun x hx => ?_⟩, fun x o hx hm => b.keep x o (a.keep x o hx hm) (a.notin hx hm), fun x hx hn => b.there x ?_ (a.there x hx hn)⟩
  · rcases List.mem_append.mp hx with q | q
    · exact f1 x q
    · cases e : H x with
      | none => rfl
      | some o =>
        have h2 := f2 x q
        by_cases hm : x ∈ m
        · exact absurd h2 (a.there x hm (by rw [e]; simp))
        · rw [a.keep x o e hm] at h2; cases h2
  · rw [e1]; exact List.mem_append_left _ hx

theorem Ext.get {m m' : List Addr} {H H' : Hp} (e : Ext m H m' H') {n : Nat} {a : Addr} (h : m[n]? = some a) : m'[n]? = some a := by
  obtain ⟨l, rfl, _⟩ := e.grow
  obtain ⟨h1, h2⟩ := List.getElem?_eq_some_iff.mp h
  rw [List.getElem?_append_left h1]
  exact h
theorem Rd.ext {m m' : List Addr} {H H' : Hp} (e : Ext m H m' H') {a : Addr} {u : HO} (h : Rd H a u) (hm : a ∉ m) : a ∉ m' ∧ Rd H' a u := by
  rcases h with h | ⟨o, h⟩
  · exact ⟨e.notin h hm, .inl (e.keep _ _ h hm)⟩
  · exact ⟨e.notin h hm, .inr ⟨o, e.keep _ _ h hm⟩⟩

mutual
theorem Rep.mono {g : GW} {m m' : List Addr} {H H' : Hp} (e : Ext m H m' H') : ∀ (t : T) {v : V}, Rep g m H t v → Rep g m' H' t v
  | .non, v, h => by simpa only [Rep] using h
  | .bl b, v, h => by simpa only [Rep] using h
  | .int i, v, h => by simpa only [Rep] using h
  | .str s, v, h => by simpa only [Rep] using h
  | .fn f, v, h => by simpa only [Rep] using h
  | .box n, v, h => by
    simp only [Rep] at h ⊢
    obtain ⟨a, h1, h2⟩ := h
    exact ⟨a, e.get h1, h2⟩
  | .scr ns, v, h => by
    simp only [Rep] at h ⊢
    obtain ⟨a, h1, h2⟩ := h
    refine ⟨a, h1, ?_⟩
    rcases h2 with ⟨q, q', r⟩ | h2
    · exact .inl ⟨(Rd.ext e r q).1, q', (Rd.ext e r q).2⟩
    · exact .inr h2
  | .tup l, v, h => by
    simp only [Rep] at h ⊢
    obtain ⟨a, vs, h1, h2, h3⟩ := h
    refine ⟨a, vs, h1, ?_, RepL.mono e l h3⟩
    rcases h2 with ⟨q, q', r⟩ | h2
    · exact .inl ⟨(Rd.ext e r q).1, q', (Rd.ext e r q).2⟩
    · exact .inr h2
  | .lst l, v, h => by
    simp only [Rep] at h ⊢
    obtain ⟨a, vs, h1, h2, h2', h3, h4⟩ := h
    exact ⟨a, vs, h1, e.notin h3 h2, h2', e.keep _ _ h3 h2, RepL.mono e l h4⟩
theorem RepL.mono {g : GW} {m m' : List Addr} {H H' : Hp} (e : Ext m H m' H') : ∀ (ts : List T) {vs : List V}, RepL g m H ts vs → RepL g m' H' ts vs
  | [], vs, h => by simpa only [RepL] using h
  | t :: ts, vs, h => by
    simp only [RepL] at h ⊢
    obtain ⟨v, r, h1, h2, h3⟩ := h
    exact ⟨v, r, h1, Rep.mono e t h2, RepL.mono e ts h3⟩
end
end Fw

namespace Fw
open PySem L2 PyProof.Rows

/-! ### the small language that a def's text is held against -/
inductive Tg where
  | nm (i : Nat) | nl | cn (a b : Tg) | tp (a : Tg)

inductive Bl where
  | len | abs | int | bool | str | max | min | all | tuple | list

inductive Mt where
  | upper | split | join

inductive IE where
  | lit (v : T) | var (i : Nat) | cst (c : Nat)
  | nil | cons (a b : IE) | tup (es : IE) | lst (bx : Bool) (es : IE)
  | op (bx : Bool) (o : Operator) (a b : IE) | cmp (o : CmpOp) (a b : IE) | chn (o o' : CmpOp) (a b c : IE)
  | neg (a : IE) | not (a : IE) | and (a b : IE) | or (a b : IE) | ite (c a b : IE)
  | ix (a b : IE) | sl (bx : Bool) (a lo hi : IE) | rev (bx : Bool) (a : IE)
  | call (f : Nat) (es : IE) | blt (bx : Bool) (b : Bl) (es : IE) | isi (a : IE) (ty : String) | mt0 (m : Mt) (o : IE) | mt1 (m : Mt) (o e : IE)
  | lc (bx : Bool) (own : List Nat) (elt : IE) (tg : Tg) (src cnd : IE)
  | sq (a : IE) | rg1 (a : IE) | rg2 (a b : IE) | zp (a b : IE) | en (a : IE)
  | lam (f : Nat) (e : IE)

inductive IS where
  | skip | seq (a b : IS)
  | pass | brk | cnt | ret (e : IE) | expr (e : IE)
  | asg (tg : Tg) (e : IE) | par2 (i j : Nat) (es : IE) | par3 (i j k : Nat) (es : IE) | sub (o i e : IE) | app (o e : IE)
  | iff (c : IE) (a b : IS) | for_ (tg : Tg) (src : IE) (b : IS) | whl (c : IE) (b : IS)
  | rs (c : Nat)

def part (nl : Bool) (t : T) : Option (Option Int) := if nl then some none else match t with
  | .int i => some (some i)
  | _ => none
def isNil : IE → Bool
  | .nil => true
  | _ => false

inductive Out where
  | ok (t : T) (S : Sto) | ex (c : Nat) (p : Option T) (S : Sto)
abbrev Res := Option Out
inductive OutS where
  | nx (r : Rho) (S : Sto) | rt (t : T) (S : Sto) | bk (r : Rho) (S : Sto) | ct (r : Rho) (S : Sto) | ex (c : Nat) (p : Option T) (r : Rho) (S : Sto)
abbrev ResS := Option OutS

structure EV where
  call : Nat → List T → Sto → Res
  cv : Nat → T
  lam : Nat → Option (List (Nat × T) × T)
  wf : Nat

@[inline] def bnd (r : Res) (k : T → Sto → Res) : Res := match r with
  | some (.ok t S) => k t S
  | some (.ex c p S) => some (.ex c p S)
  | none => none

@[inline] def bndS (r : Res) (ρ : Rho) (k : T → Sto → ResS) : ResS := match r with
  | some (.ok t S) => k t S
  | some (.ex c p S) => some (.ex c p ρ S)
  | none => none

def line : Nat := 16777216

/-! ### values -/
def drf (S : Sto) (t : T) : T := match t with
  | .box n => match S[n]? with
    | some (.lst l) => .lst l
    | _ => t
  | _ => t

mutual
def toD : T → Option PyData
  | .non => some .none
  | .bl b => some (.bool b)
  | .int i => some (.int i)
  | .str s => some (.str s)
  | .tup l => match toDs l with | some ds => some (.tuple ds) | none => none
  | .lst l => match toDs l with | some ds => some (.list ds) | none => none
  | _ => none
def toDs : List T → Option (List PyData)
  | [] => some []
  | t :: ts => match toD t with
    | some d => match toDs ts with | some ds => some (d :: ds) | none => none
    | none => none
end

def shal (d e : PyData) : Bool := decide (min d.depth e.depth ≤ 60)

def eqT (x y : T) : Option Bool := match toD x with
  | some d => match toD y with
    | some e => if shal d e then some (PyData.eqv d e) else none
    | none => none
  | none => none

def inT (x : T) (l : List T) : Option Bool := match toD x with
  | some d => match toDs l with
    | some es => if decide (d.depth ≤ 60) then some (es.any fun z => PyData.eqv z d) else none
    | none => none
  | none => none

def truthy (S : Sto) (t : T) : Option Bool := match t with
  | .non => some false
  | .bl b => some b
  | .int i => some (i != 0)
  | .str s => if s.length ≤ line then some (s.length != 0) else none
  | .tup l => some (!l.isEmpty)
  | .lst l => some (!l.isEmpty)
  | .box n => match S[n]? with
    | some (.lst l) => some (!l.isEmpty)
    | _ => none
  | _ => none

def small64 (i : Int) : Bool := decide (-(2 ^ 64) < i) && decide (i < 2 ^ 64)

def bop (o : Operator) (x y : T) : Option T := match o, x, y with
  | .Add, .int i, .int j => some (.int (i + j))
  | .Add, .str a, .str b => if a.length + b.length ≤ line then some (.str (a ++ b)) else none
  | .Add, .tup a, .tup b => if a.length + b.length ≤ line then some (.tup (a ++ b)) else none
  | .Add, .lst a, .lst b => if a.length + b.length ≤ line then some (.lst (a ++ b)) else none
  | .Sub, .int i, .int j => some (.int (i - j))
  | .Mult, .int i, .int j => if small64 i || small64 j then some (.int (i * j)) else none
  | .Mult, .tup a, .int k => if !a.isEmpty && decide (2 ≤ k) && decide (k ≤ 1000) && decide (a.length ≤ 1000) then some (.tup (List.replicate k.toNat a).flatten) else none
  | .FloorDiv, .int i, .int j => if decide (0 < j) && decide (j < 1073741824) then some (.int (i / j)) else none
  | .Mod, .int i, .int j => if decide (0 < j) then some (.int (i % j)) else none
  | .Pow, .int i, .int j => if decide (0 ≤ j) && decide (j ≤ 1000000) && decide (i.natAbs < 2 ^ 64) then some (.int (i ^ j.toNat)) else none
  | .Add, .bl p, .int j => some (.int ((if p = true then (1 : Int) else 0) + j))
  | .Sub, .bl p, .int j => some (.int ((if p = true then (1 : Int) else 0) - j))
  | _, _, _ => none
def negT : T → Option T
  | .int i => some (.int (-i))
  | .bl p => some (.int (-(if p = true then (1 : Int) else 0)))
  | _ => none

def cop (S : Sto) (o : CmpOp) (x y : T) : Option Bool := match o with
  | .Eq => eqT (drf S x) (drf S y)
  | .NotEq => match eqT (drf S x) (drf S y) with | some b => some (!b) | none => none
  | .Lt => match x, y with | .int i, .int j => some (decide (i < j)) | _, _ => none
  | .LtE => match x, y with | .int i, .int j => some (decide (i ≤ j)) | _, _ => none
  | .Gt => match x, y with | .int i, .int j => some (decide (j < i)) | _, _ => none
  | .GtE => match x, y with | .int i, .int j => some (decide (j ≤ i)) | _, _ => none
  | .Is => match y with | .non => (match x with | .non => some true | _ => some false) | _ => none
  | .IsNot => match y with | .non => (match x with | .non => some false | _ => some true) | _ => none
  | .In => match drf S y with
    | .tup l => inT (drf S x) l
    | .lst l => inT (drf S x) l
    | .str b => (match x with | .str a => some (!(Builtin.Str.occurrences b a 0 b.length 1).isEmpty) | _ => none)
    | _ => none
  | .NotIn => match drf S y with
    | .tup l => (match inT (drf S x) l with | some b => some (!b) | none => none)
    | .lst l => (match inT (drf S x) l with | some b => some (!b) | none => none)
    | .str b => (match x with | .str a => some (!(!(Builtin.Str.occurrences b a 0 b.length 1).isEmpty)) | _ => none)
    | _ => none

def cutL (xs : List T) (lo hi : Option Int) : List T := (xs.drop (HT.sIx xs.length 0 lo)).take (HT.sIx xs.length xs.length hi - HT.sIx xs.length 0 lo)

def ixT (S : Sto) (x i : T) : Option T := match drf S x, i with
  | .tup l, .int k => atI l k
  | .lst l, .int k => atI l k
  | .scr l, .int k => match atI l k with | some z => some (.int z) | none => none
  | .str z, .int k => if z.length ≤ line then (match atI z.cps.toList k with | some c => some (.str ⟨#[c]⟩) | none => none) else none
  | _, _ => none

def slT (S : Sto) (x : T) (lo hi : Option Int) : Option T := match drf S x with
  | .tup l => some (.tup (cutL l lo hi))
  | .lst l => some (.lst (cutL l lo hi))
  | .str z => if z.length ≤ line then some (.str (cutS z lo hi)) else none
  | _ => none

def revT (S : Sto) (x : T) : Option T := match drf S x with
  | .tup l => some (.tup l.reverse)
  | .lst l => some (.lst l.reverse)
  | _ => none

def boolsOf : List T → Option (List Bool)
  | [] => some []
  | .bl b :: r => match boolsOf r with | some l => some (b :: l) | none => none
  | _ :: _ => none
def intsOf : List T → Option (List Int)
  | [] => some []
  | .int b :: r => match intsOf r with | some l => some (b :: l) | none => none
  | _ :: _ => none
def strsOf : List T → Option (List Str)
  | [] => some []
  | .str b :: r => match strsOf r with | some l => some (b :: l) | none => none
  | _ :: _ => none

def maxI : Int → List Int → Int
  | a, [] => a
  | a, b :: r => maxI (if b > a then b else a) r
def minI : Int → List Int → Int
  | a, [] => a
  | a, b :: r => minI (if b < a then b else a) r

def bltT (S : Sto) (b : Bl) (ts : List T) : Option T := match b, ts with
  | .len, [x] => (match drf S x with
    | .tup l => some (.int l.length)
    | .lst l => some (.int l.length)
    | .scr l => some (.int l.length)
    | .str z => if z.length ≤ line then some (.int z.length) else none
    | _ => none)
  | .abs, [.int i] => some (.int (if i < 0 then -i else i))
  | .int, [.int i] => some (.int i)
  | .int, [.bl k] => some (.int (if k then 1 else 0))
  | .int, [.str a] => if a.length ≤ 640 then (match PySem.intText? a with | some n => some (.int n) | none => none) else none
  | .bool, [.int i] => some (.bl (i != 0))
  | .bool, [.bl k] => some (.bl k)
  | .str, [.int i] => if i.natAbs.log2 < 1920 then some (.str (Str.ofString (toString i))) else none
  | .max, [.int i, .int j] => some (.int (if j > i then j else i))
  | .min, [.int i, .int j] => some (.int (if j < i then j else i))
  | .max, [x] => (match drf S x with | .lst l => (match intsOf l with | some (a :: r) => some (.int (maxI a r)) | _ => none) | _ => none)
  | .min, [x] => (match drf S x with | .lst l => (match intsOf l with | some (a :: r) => some (.int (minI a r)) | _ => none) | _ => none)
  | .all, [x] => (match drf S x with | .lst l => (match boolsOf l with | some l => some (.bl (l.all id)) | _ => none) | _ => none)
  | .tuple, [x] => (match drf S x with
    | .tup l => some (.tup l)
    | .lst l => some (.tup l)
    | _ => none)
  | .list, [x] => (match drf S x with
    | .tup l => some (.lst l)
    | .lst l => some (.lst l)
    | _ => none)
  | _, _ => none

def mt0T (m : Mt) (o : T) : Option T := match m, o with
  | .upper, .str a => if a.length ≤ 5592405 then some (.str (Txt.upper a)) else none
  | _, _ => none
def mt1T (S : Sto) (m : Mt) (a : Str) (x : T) : Option T := match m with
  | .split => (match x with
    | .str b => if (b.length == 0) = false ∧ a.length + 2 ≤ line then some (.lst ((Txt.split a b).map .str)) else none
    | _ => none)
  | .join => (match drf S x with
    | .lst l => (match strsOf l with | some ys => if (ys.map (·.length)).sum + ys.length * a.length ≤ line then some (.str (Txt.join a ys)) else none | none => none)
    | .tup l => (match strsOf l with | some ys => if (ys.map (·.length)).sum + ys.length * a.length ≤ line then some (.str (Txt.join a ys)) else none | none => none)
    | _ => none)
  | _ => none

def tyT (S : Sto) (t : T) : Option String := match t with
  | .non => some "NoneType"
  | .bl _ => some "bool"
  | .int _ => some "int"
  | .str _ => some "str"
  | .tup _ => some "tuple"
  | .lst _ => some "list"
  | .box n => match S[n]? with
    | some (.lst _) => some "list"
    | _ => none
  | _ => none

def isiT (S : Sto) (t : T) (ty : String) : Option Bool := match tyT S t with
  | some a => some (a == ty || (a == "bool" && ty == "int"))
  | none => none

/-- a new list: a tree, or a box -/
def newL (bx : Bool) (t : T) (S : Sto) : Out := match t with
  | .lst l => if bx then .ok (.box S.length) (S ++ [.lst l]) else .ok t S
  | _ => .ok t S

def lift (bx : Bool) (r : Option T) (S : Sto) : Res := match r with
  | some t => some (newL bx t S)
  | none => none
def liftB (r : Option Bool) (S : Sto) : Res := match r with
  | some b => some (.ok (.bl b) S)
  | none => none

def strT (t : T) (k : Str → Res) : Res := match t with
  | .str a => k a
  | _ => none
def tups (t : T) (k : List T → Res) : Res := match t with
  | .tup l => k l
  | _ => none

/-! ### targets, loops -/
def bindT : Tg → T → Rho → Option Rho
  | .nm i, t, ρ => some (ρ.set i (some t))
  | .nl, .tup [], ρ => some ρ
  | .cn a b, .tup (x :: xs), ρ => match bindT a x ρ with | some ρ' => bindT b (.tup xs) ρ' | none => none
  | .tp a, .tup l, ρ => bindT a (.tup l) ρ
  | _, _, _ => none

def wipeR (ρ : Rho) : List Nat → Rho
  | [] => ρ
  | v :: vs => (wipeR ρ vs).set v none

/-- a comprehension's turns: b the test and the element -/
def lcL (g : T → Sto → Option (Option T × Sto)) : List T → List T → Sto → Option (List T × Sto)
  | [], acc, S => some (acc, S)
  | x :: xs, acc, S => match g x S with
    | some (some y, S') => if acc.length < line then lcL g xs (acc ++ [y]) S' else none
    | some (none, S') => lcL g xs acc S'
    | none => none

def forL (g : T → Rho → Sto → ResS) : List T → Rho → Sto → ResS
  | [], ρ, S => some (.nx ρ S)
  | x :: xs, ρ, S => match g x ρ S with
    | some (.nx ρ' S') => forL g xs ρ' S'
    | some (.ct ρ' S') => forL g xs ρ' S'
    | some (.bk ρ' S') => some (.nx ρ' S')
    | r => r

def whlL (c : Rho → Sto → Res) (g : Rho → Sto → ResS) : Nat → Rho → Sto → ResS
  | 0, _, _ => none
  | n + 1, ρ, S => match c ρ S with
    | some (.ok t S1) => (match truthy S1 t with
      | some true => (match g ρ S1 with
        | some (.nx ρ' S') => whlL c g n ρ' S'
        | some (.ct ρ' S') => whlL c g n ρ' S'
        | some (.bk ρ' S') => some (.nx ρ' S')
        | r => r)
      | some false => some (.nx ρ S1)
      | none => none)
    | some (.ex c p S1) => some (.ex c p ρ S1)
    | none => none

def rngT (lo : Int) (n : Nat) : List T := (List.range n).map fun i => T.int (lo + (i : Nat))
def zipT : List T → List T → List T
  | x :: xs, y :: ys => .tup [x, y] :: zipT xs ys
  | _, _ => []
def enuT : Nat → List T → List T
  | _, [] => []
  | i, x :: xs => .tup [.int (i : Nat), x] :: enuT (i + 1) xs

def okR (i : Int) : Bool := decide (-(2 ^ 62) ≤ i) && decide (i < 2 ^ 62)

def seqT (t : T) : Option (List T) := match t with
  | .tup l => some l
  | .lst l => some l
  | _ => none

def pick (c : Nat) : List (Nat × T) → Option T
  | [] => none
  | (d, t) :: r => if c == d then some t else pick c r

def evE (E : EV) : IE → Rho → Sto → Res
  | .lit v, _, S => some (.ok v S)
  | .var i, ρ, S => (match ρ[i]? with | some (some t) => some (.ok t S) | _ => none)
  | .cst c, _, S => some (.ok (E.cv c) S)
  | .nil, _, S => some (.ok (.tup []) S)
  | .cons a b, ρ, S => bnd (evE E a ρ S) fun x S1 => bnd (evE E b ρ S1) fun y S2 => tups y fun l => some (.ok (.tup (x :: l)) S2)
  | .tup es, ρ, S => bnd (evE E es ρ S) fun x S1 => tups x fun l => if l.length ≤ line then some (.ok (.tup l) S1) else none
  | .lst bx es, ρ, S => bnd (evE E es ρ S) fun x S1 => tups x fun l => if l.length ≤ line then some (newL bx (.lst l) S1) else none
  | .op bx o a b, ρ, S => bnd (evE E a ρ S) fun x S1 => bnd (evE E b ρ S1) fun y S2 => lift bx (bop o (drf S2 x) (drf S2 y)) S2
  | .cmp o a b, ρ, S => bnd (evE E a ρ S) fun x S1 => bnd (evE E b ρ S1) fun y S2 => liftB (cop S2 o x y) S2
  | .chn o o' a b c, ρ, S => bnd (evE E a ρ S) fun x S1 => bnd (evE E b ρ S1) fun y S2 => (match cop S2 o x y with
    | some true => bnd (evE E c ρ S2) fun z S3 => liftB (cop S3 o' y z) S3
    | some false => some (.ok (.bl false) S2)
    | none => none)
  | .neg a, ρ, S => bnd (evE E a ρ S) fun x S1 => (match negT x with | some t => some (.ok t S1) | none => none)
  | .not a, ρ, S => bnd (evE E a ρ S) fun x S1 => (match truthy S1 x with | some b => some (.ok (.bl (!b)) S1) | none => none)
  | .and a b, ρ, S => bnd (evE E a ρ S) fun x S1 => (match truthy S1 x with | some true => evE E b ρ S1 | some false => some (.ok x S1) | none => none)
  | .or a b, ρ, S => bnd (evE E a ρ S) fun x S1 => (match truthy S1 x with | some true => some (.ok x S1) | some false => evE E b ρ S1 | none => none)
  | .ite c a b, ρ, S => bnd (evE E c ρ S) fun x S1 => (match truthy S1 x with | some true => evE E a ρ S1 | some false => evE E b ρ S1 | none => none)
  | .ix a b, ρ, S => bnd (evE E a ρ S) fun x S1 => bnd (evE E b ρ S1) fun y S2 => lift false (ixT S2 x y) S2
  | .sl bx a lo hi, ρ, S => bnd (evE E a ρ S) fun x S1 => bnd (evE E lo ρ S1) fun l S2 => (match part (isNil lo) l with
    | some i => bnd (evE E hi ρ S2) fun h S3 => (match part (isNil hi) h with
      | some j => lift bx (slT S3 x i j) S3
      | none => none)
    | none => none)
  | .rev bx a, ρ, S => bnd (evE E a ρ S) fun x S1 => lift bx (revT S1 x) S1
  | .call f es, ρ, S => bnd (evE E es ρ S) fun x S1 => tups x fun l => E.call f l S1
  | .blt bx b es, ρ, S => bnd (evE E es ρ S) fun x S1 => tups x fun l => lift bx (bltT S1 b l) S1
  | .isi a ty, ρ, S => bnd (evE E a ρ S) fun x S1 => liftB (isiT S1 x ty) S1
  | .mt0 m o, ρ, S => bnd (evE E o ρ S) fun x S1 => lift false (mt0T m x) S1
  | .mt1 m o e, ρ, S => bnd (evE E o ρ S) fun x S1 => strT x fun a => bnd (evE E e ρ S1) fun y S2 => lift false (mt1T S2 m a y) S2
  | .lc bx own elt tg src cnd, ρ, S => bnd (evE E src ρ S) fun x S1 => tups x fun l =>
      match lcL (fun t S => match bindT tg t (wipeR ρ own) with
        | some ρ' => (match evE E cnd ρ' S with
          | some (.ok c S') => (match truthy S' c with
            | some true => (match evE E elt ρ' S' with | some (.ok y S'') => some (some y, S'') | _ => none)
            | some false => some (none, S')
            | none => none)
          | _ => none)
        | none => none) l [] S1 with
      | some (ys, S2) => some (newL bx (.lst ys) S2)
      | none => none
  | .sq a, ρ, S => bnd (evE E a ρ S) fun x S1 => (match seqT x with | some l => some (.ok (.tup l) S1) | none => none)
  | .rg1 a, ρ, S => bnd (evE E a ρ S) fun x S1 => (match x with | .int j => if okR j then some (.ok (.tup (rngT 0 j.toNat)) S1) else none | _ => none)
  | .rg2 a b, ρ, S => bnd (evE E a ρ S) fun x S1 => bnd (evE E b ρ S1) fun y S2 => (match x, y with
    | .int i, .int j => if okR i && okR j then some (.ok (.tup (rngT i (j - i).toNat)) S2) else none
    | _, _ => none)
  | .zp a b, ρ, S => bnd (evE E a ρ S) fun x S1 => bnd (evE E b ρ S1) fun y S2 => (match x, y with
    | .tup xs, .tup ys => some (.ok (.tup (zipT xs ys)) S2)
    | .lst xs, .lst ys => some (.ok (.tup (zipT xs ys)) S2)
    | _, _ => none)
  | .en a, ρ, S => bnd (evE E a ρ S) fun x S1 => (match x with | .lst l => some (.ok (.tup (enuT 0 l)) S1) | _ => none)
  | .lam f e, ρ, S => (match E.lam f with
    | some (hs, r) => (match evE E e ρ S with
      | some (.ok _ S') => some (.ok r S')
      | some (.ex c _ S') => (match pick c hs with | some t => some (.ok t S') | none => none)
      | none => none)
    | none => none)

def isLst (S : Sto) (o : T) : Bool := match o with
  | .box n => match S[n]? with
    | some (.lst _) => true
    | _ => false
  | _ => false
/-- o.append(x), o[i] = x: where o stands -/
def wApp (S : Sto) (o x : T) : Option Sto := match o with
  | .box n => match S[n]? with
    | some (.lst l) => if l.length < line then some (S.set n (.lst (l ++ [x]))) else none
    | _ => none
  | _ => none
def wSub (S : Sto) (o i x : T) : Option Sto := match o, i with
  | .box n, .int k => match S[n]? with
    | some (.lst l) => match ixN l.length k with
      | some j => some (S.set n (.lst (l.set j x)))
      | none => none
    | _ => none
  | _, _ => none

def evS (E : EV) : IS → Rho → Sto → ResS
  | .skip, ρ, S => some (.nx ρ S)
  | .seq a b, ρ, S => (match evS E a ρ S with
    | some (.nx ρ' S') => evS E b ρ' S'
    | r => r)
  | .pass, ρ, S => some (.nx ρ S)
  | .brk, ρ, S => some (.bk ρ S)
  | .cnt, ρ, S => some (.ct ρ S)
  | .ret e, ρ, S => bndS (evE E e ρ S) ρ fun t S' => some (.rt t S')
  | .expr e, ρ, S => bndS (evE E e ρ S) ρ fun _ S' => some (.nx ρ S')
  | .asg tg e, ρ, S => bndS (evE E e ρ S) ρ fun t S' => (match bindT tg t ρ with | some ρ' => some (.nx ρ' S') | none => none)
  | .par2 i j e, ρ, S => bndS (evE E e ρ S) ρ fun t S' => (match t with | .tup [x, y] => some (.nx ((ρ.set i (some x)).set j (some y)) S') | _ => none)
  | .par3 i j k e, ρ, S => bndS (evE E e ρ S) ρ fun t S' => (match t with | .tup [x, y, z] => some (.nx (((ρ.set i (some x)).set j (some y)).set k (some z)) S') | _ => none)
  | .sub o i e, ρ, S => bndS (evE E e ρ S) ρ fun t S1 => bndS (evE E o ρ S1) ρ fun x S2 => bndS (evE E i ρ S2) ρ fun y S3 =>
      (match wSub S3 x y t with | some S4 => some (.nx ρ S4) | none => none)
  | .app o e, ρ, S => bndS (evE E o ρ S) ρ fun x S1 => if isLst S1 x then bndS (evE E e ρ S1) ρ fun t S2 =>
      (match wApp S2 x t with | some S3 => some (.nx ρ S3) | none => none) else none
  | .iff c a b, ρ, S => bndS (evE E c ρ S) ρ fun x S1 => (match truthy S1 x with
    | some true => evS E a ρ S1
    | some false => evS E b ρ S1
    | none => none)
  | .for_ tg src b, ρ, S => bndS (evE E src ρ S) ρ fun x S1 => (match x with
    | .tup l => forL (fun t ρ S => match bindT tg t ρ with | some ρ' => evS E b ρ' S | none => none) l ρ S1
    | _ => none)
  | .whl c b, ρ, S => whlL (fun ρ S => evE E c ρ S) (fun ρ S => evS E b ρ S) E.wf ρ S
  | .rs c, ρ, S => some (.ex c none ρ S)

/-! ### defs -/
structure FD where
  np : Nat
  ns : Nat
  keep : Bool
  body : IS

mutual
def noBx (b : Nat) : T → Bool
  | .box n => decide (n < b)
  | .tup l => noBxL b l
  | .lst l => noBxL b l
  | _ => true
def noBxL (b : Nat) : List T → Bool
  | [] => true
  | t :: ts => noBx b t && noBxL b ts
end
def noBxO (b : Nat) : Ob → Bool
  | .lst l => noBxL b l
  | _ => false

def thaw (b : Nat) (t : T) (S : Sto) : T := match t with
  | .box n => if b ≤ n then (match S[n]? with | some (.lst l) => .lst l | _ => t) else t
  | _ => t

def fin1 (b : Nat) (t : T) (S : Sto) : Out :=
  if S.length ≤ b then .ok t S
  else if noBx b (thaw b t S) && (S.take b).all (noBxO b) then .ok (thaw b t S) (S.take b) else .ok t S

def finE (b : Nat) (c : Nat) (p : Option T) (S : Sto) : Out :=
  if S.length ≤ b then .ex c p S
  else if (S.take b).all (noBxO b) then .ex c p (S.take b) else .ex c p S

def fin (keep : Bool) (b : Nat) (r : ResS) : Res := match r with
  | some (.rt t S) => some (if keep then .ok t S else fin1 b t S)
  | some (.nx _ S) => some (if keep then .ok .non S else fin1 b .non S)
  | some (.ex c p _ S) => some (if keep then .ex c p S else finE b c p S)
  | _ => none

structure Prg where
  tab : Nat → Option FD
  cv : Nat → T
  lam : Nat → Option (List (Nat × T) × T)
  wf : Nat

def init (fd : FD) (ts : List T) : Rho := ts.map some ++ List.replicate (fd.ns - ts.length) none

def run (P : Prg) : Nat → Nat → List T → Sto → Res
  | 0, _, _, _ => none
  | n + 1, f, ts, S => match P.tab f with
    | some fd => if ts.length == fd.np then fin fd.keep S.length (evS ⟨run P n, P.cv, P.lam, P.wf⟩ fd.body (init fd ts) S) else none
    | none => none
end Fw

namespace Fw
open PySem L2 PyProof.Rows

/-! ### the store -/
def ObR (g : GW) (m : List Addr) (H : Hp) : Ob → Addr → Prop
  | .lst l, a => ∃ vs, H a = some (.lst vs) ∧ RepL g m H l vs
  | _, _ => False

structure SRep (g : GW) (m : List Addr) (H : Hp) (S : Sto) : Prop where
  len : m.length = S.length
  nd : m.Nodup
  at_ : ∀ (n : Nat) (ob : Ob) (a : Addr), S[n]? = some ob → m[n]? = some a → ObR g m H ob a
  fbs : ∀ a ∈ g.fb, H a ≠ none ∧ a ∉ m

theorem ObR.there {g : GW} {m : List Addr} {H : Hp} {ob : Ob} {a : Addr} (h : ObR g m H ob a) : ∃ o, H a = some o := by
  cases ob with
  | lst l => obtain ⟨vs, e, _⟩ := h; exact ⟨_, e⟩
  | dct _ => exact h.elim
  | ins _ _ => exact h.elim

theorem SRep.there {g : GW} {m : List Addr} {H : Hp} {S : Sto} (r : SRep g m H S) {a : Addr} (h : a ∈ m) : ∃ o, H a = some o := by
  obtain ⟨n, hn, e⟩ := List.mem_iff_getElem.mp h
  have h1 : n < S.length := by rw [← r.len]; exact hn
  have e2 : m[n]? = some a := by rw [List.getElem?_eq_getElem hn, e]
  exact (r.at_ n S[n] a (List.getElem?_eq_getElem h1) e2).there

theorem SRep.freshF {g : GW} {m : List Addr} {H : Hp} {S : Sto} (r : SRep g m H S) {a : Addr} (h : H a = none) : a ∉ g.fb := fun q => (r.fbs a q).1 h
theorem Ext.fbs {fb m m' : List Addr} {H H' : Hp} (e : Ext m H m' H') (h : ∀ a ∈ fb, H a ≠ none ∧ a ∉ m) : ∀ a ∈ fb, H' a ≠ none ∧ a ∉ m' := fun a ha => by
  obtain ⟨h1, h2⟩ := h a ha
  cases q : H a with
  | none => exact absurd q h1
  | some o => exact ⟨by rw [e.keep a o q h2]; simp, e.notin q h2⟩

theorem SRep.fresh {g : GW} {m : List Addr} {H : Hp} {S : Sto} (r : SRep g m H S) {a : Addr} (h : H a = none) : a ∉ m := fun q => by
  obtain ⟨o, e⟩ := r.there q
  rw [h] at e; cases e

/-- a new tracked object -/
theorem Ext.new {m : List Addr} {H : Hp} {p : Addr} {o : HO} (h : H p = none) : Ext m H m (upd H p o) :=
  ⟨⟨[], by simp, by simp⟩, fun a u e _ => by rw [upd_ne (ne_of_none e h)]; exact e, fun a _ n => by
    by_cases e : a = p
    · subst e; rw [upd_same]; simp
    · rw [upd_ne e]; exact n⟩
/-- .. as a box -/
theorem Ext.box {m : List Addr} {H : Hp} {p : Addr} {o : HO} (h : H p = none) : Ext m H (m ++ [p]) (upd H p o) :=
  ⟨⟨[p], rfl, fun a q => by simp only [List.mem_singleton] at q; subst q; exact h⟩, fun a u e _ => by rw [upd_ne (ne_of_none e h)]; exact e, fun a _ n => by
    by_cases e : a = p
    · subst e; rw [upd_same]; simp
    · rw [upd_ne e]; exact n⟩

theorem ObR.mono {g : GW} {m m' : List Addr} {H H' : Hp} {ob : Ob} {a : Addr} (e : Ext m H m' H') (h : ObR g m H ob a) (k : H' a = H a) : ObR g m' H' ob a := by
  cases ob with
  | lst l => obtain ⟨vs, e1, r⟩ := h; exact ⟨vs, by rw [k]; exact e1, RepL.mono e l r⟩
  | dct _ => exact h.elim
  | ins _ _ => exact h.elim

/-- a tree is laid: the boxes are as they were -/
theorem SRep.new {g : GW} {m : List Addr} {H : Hp} {S : Sto} (r : SRep g m H S) {p : Addr} {o : HO} (h : H p = none) : SRep g m (upd H p o) S :=
  ⟨r.len, r.nd, fun n ob a h1 h2 => (r.at_ n ob a h1 h2).mono (Ext.new h) (upd_ne fun q => by
    obtain ⟨u, e⟩ := (r.at_ n ob a h1 h2).there
    rw [q, h] at e; cases e), (Ext.new h).fbs r.fbs⟩

theorem SRep.box {g : GW} {m : List Addr} {H : Hp} {S : Sto} (r : SRep g m H S) {p : Addr} {l : List T} {vs : List V} (h : H p = none) (q : RepL g m H l vs) :
    SRep g (m ++ [p]) (upd H p (.lst vs)) (S ++ [.lst l]) := by
  refine ⟨by simp [r.len], ?_, fun n ob a h1 h2 => ?_, (Ext.box h).fbs r.fbs⟩
  · refine List.nodup_append.mpr ⟨r.nd, by simp, fun a ha b hb e => ?_⟩
    simp only [List.mem_singleton] at hb
    subst hb; subst e
    exact r.fresh h ha
  · by_cases hn : n < S.length
    · rw [List.getElem?_append_left hn] at h1
      rw [List.getElem?_append_left (by rw [r.len]; exact hn)] at h2
      have z := r.at_ n ob a h1 h2
      exact z.mono (Ext.box h) (upd_ne fun q => by
        obtain ⟨u, e⟩ := z.there
        rw [q, h] at e; cases e)
    · have e1 : n = S.length := by
        have := (List.getElem?_eq_some_iff.mp h1).1
        simp at this
        omega
      subst e1
      rw [List.getElem?_append_right (Nat.le_refl _)] at h1
      rw [List.getElem?_append_right (by rw [r.len]; exact Nat.le_refl _)] at h2
      simp [r.len] at h1 h2
      subst h1; subst h2
      exact ⟨vs, upd_same, RepL.mono (Ext.box h) l q⟩

/-- a box's list is written -/
theorem Ext.write {m : List Addr} {H : Hp} {p : Addr} {o : HO} (h : p ∈ m) : Ext m H m (upd H p o) :=
  ⟨⟨[], by simp, by simp⟩, fun a u e n => by
    rw [upd_ne (fun q => n (by rw [q]; exact h))]; exact e, fun a _ n => by
    by_cases e : a = p
    · subst e; rw [upd_same]; simp
    · rw [upd_ne e]; exact n⟩

theorem SRep.write {g : GW} {m : List Addr} {H : Hp} {S : Sto} (r : SRep g m H S) {k : Nat} {p : Addr} {l : List T} {vs : List V} (h : m[k]? = some p) (q : RepL g m H l vs) :
    SRep g m (upd H p (.lst vs)) (S.set k (.lst l)) := by
  have hp : p ∈ m := List.mem_of_getElem? h
  have hk : k < S.length := by rw [← r.len]; exact (List.getElem?_eq_some_iff.mp h).1
  refine ⟨by simp [r.len], r.nd, fun n ob a h1 h2 => ?_, (Ext.write hp).fbs r.fbs⟩
  by_cases e : n = k
  · subst e
    rw [List.getElem?_set_self hk] at h1
    cases h1
    rw [h] at h2; cases h2
    exact ⟨vs, upd_same, RepL.mono (Ext.write hp) l q⟩
  · rw [List.getElem?_set_ne (Ne.symm e)] at h1
    have z := r.at_ n ob a h1 h2
    refine z.mono (Ext.write hp) (upd_ne fun q => e ?_)
    subst q
    exact nd_ix r.nd h2 h

/-! ### what a step is to reach -/
def ERep (g : GW) (m : List Addr) (H : Hp) (ρ : Rho) (σ : L2.St) : Prop :=
  σ.length = ρ.length ∧ ∀ (i : Nat) (t : T), ρ[i]? = some (some t) → ∃ v, σ[i]? = some (some v) ∧ Rep g m H t v

theorem ERep.mono {g : GW} {m m' : List Addr} {H H' : Hp} {ρ : Rho} {σ : L2.St} (e : Ext m H m' H') (h : ERep g m H ρ σ) : ERep g m' H' ρ σ :=
  ⟨h.1, fun i t q => let ⟨v, h1, h2⟩ := h.2 i t q; ⟨v, h1, Rep.mono e t h2⟩⟩

theorem ERep.set {g : GW} {m : List Addr} {H : Hp} {ρ : Rho} {σ : L2.St} (h : ERep g m H ρ σ) (i : Nat) {t : T} {v : V} (r : Rep g m H t v) : ERep g m H (ρ.set i (some t)) (σ.set i (some v)) := by
  refine ⟨by simp [h.1], fun j u q => ?_⟩
  by_cases e : i = j
  · subst e
    have hi : i < ρ.length := by
      have := (List.getElem?_eq_some_iff.mp q).1
      simpa using this
    rw [List.getElem?_set_self hi] at q
    simp only [Option.some.injEq] at q
    subst q
    exact ⟨v, List.getElem?_set_self (by rw [h.1]; exact hi), r⟩
  · rw [List.getElem?_set_ne e] at q
    obtain ⟨w, h1, h2⟩ := h.2 j u q
    exact ⟨w, by rw [List.getElem?_set_ne e]; exact h1, h2⟩

theorem ERep.unset {g : GW} {m : List Addr} {H : Hp} {ρ : Rho} {σ : L2.St} (h : ERep g m H ρ σ) (i : Nat) : ERep g m H (ρ.set i none) (σ.set i none) := by
  refine ⟨by simp [h.1], fun j u q => ?_⟩
  by_cases e : i = j
  · subst e
    have hi : i < ρ.length := by
      have := (List.getElem?_eq_some_iff.mp q).1
      simpa using this
    rw [List.getElem?_set_self hi] at q
    cases q
  · rw [List.getElem?_set_ne e] at q
    obtain ⟨w, h1, h2⟩ := h.2 j u q
    exact ⟨w, by rw [List.getElem?_set_ne e]; exact h1, h2⟩

theorem ERep.wipe {g : GW} {m : List Addr} {H : Hp} {ρ : Rho} {σ : L2.St} (h : ERep g m H ρ σ) : ∀ own : List Nat, ERep g m H (wipeR ρ own) (L2.wipe σ own)
  | [] => h
  | v :: vs => by
    show ERep g m H ((wipeR ρ vs).set v none) ((L2.wipe σ vs).set v none)
    exact (ERep.wipe h vs).unset v

structure RS (g : GW) (m : List Addr) (σ : L2.St) (H : Hp) (ρ : Rho) (S : Sto) : Prop where
  env : ERep g m H ρ σ
  sto : SRep g m H S

/-- how an error lies: its class, and the value of its attribute -/
def XRep (g : GW) (H : Hp) (c : Nat) (p : Option T) (cls : Value) (d : Option Addr) : Prop :=
  cls = .ref (g.ea c) ∧ p = none ∧ d = none

def GoodE (g : GW) (W : WX) (m : List Addr) (σ : L2.St) (H : Hp) (Q : VK) : Out → Prop
  | .ok t S' => ∀ v m' H', Ext m H m' H' → SRep g m' H' S' → Rep g m' H' t v → Q v H'
  | .ex c p S' => ∀ cls d m' H', Ext m H m' H' → SRep g m' H' S' → XRep g H' c p cls d → W cls d σ H'

theorem GoodE.ext {g : GW} {W : WX} {m m' : List Addr} {σ : L2.St} {H H' : Hp} {Q : VK} {o : Out} (h : GoodE g W m σ H Q o) (e : Ext m H m' H') : GoodE g W m' σ H' Q o := by
  cases o with
  | ok t S => exact fun v m2 H2 e2 => h v m2 H2 (e.trans e2)
  | ex c p S => exact fun cls d m2 H2 e2 => h cls d m2 H2 (e.trans e2)

/-- an expression's reading, by what it comes to -/
def tE (g : GW) (W : WX) (f : Rho → Sto → Res) : TE := fun σ H Q => ∃ fb m ρ S o, RS (g.w fb) m σ H ρ S ∧ f ρ S = some o ∧ GoodE (g.w fb) W m σ H Q o

/-- the first part of a step -/
theorem tE_bnd {g : GW} {fb : List Addr} {W : WX} {f : Rho → Sto → Res} {k : T → Sto → Res} {m : List Addr} {σ : L2.St} {H : Hp} {ρ : Rho} {S : Sto} {o : Out} {Q R : VK}
    (h : bnd (f ρ S) k = some o) (rs : RS (g.w fb) m σ H ρ S) (G : GoodE (g.w fb) W m σ H Q o)
    (hk : ∀ t S1 v m1 H1, k t S1 = some o → Ext m H m1 H1 → RS (g.w fb) m1 σ H1 ρ S1 → Rep (g.w fb) m1 H1 t v → GoodE (g.w fb) W m1 σ H1 Q o → R v H1) : tE g W f σ H R := by
  cases e : f ρ S with
  | none => rw [e] at h; cases h
  | some r =>
    rw [e] at h
    refine ⟨fb, m, ρ, S, r, rs, e, ?_⟩
    cases r with
    | ok t S1 => exact fun v m1 H1 x sr rp => hk t S1 v m1 H1 h x ⟨rs.env.mono x, sr⟩ rp (G.ext x)
    | ex c p S1 =>
      have : o = .ex c p S1 := (Option.some.inj h).symm
      subst this
      exact G

theorem _root_.L2.PE.of {X : Cx} {e : Expr} {t t' : TE} (h : PE X e t) (i : ∀ σ H Q, t' σ H Q → t σ H Q) : PE X e t' := ⟨fun pins s σ H Q I q => h.run pins s σ H Q I (i σ H Q q)⟩
theorem _root_.L2.PT.of {X : Cx} {e : Expr} {t t' : TT} (h : PT X e t) (i : ∀ σ H Q, t' σ H Q → t σ H Q) : PT X e t' := ⟨fun pins s σ H Q I q => h.run pins s σ H Q I (i σ H Q q)⟩
theorem _root_.L2.PA.of {X : Cx} {e : List Expr} {t t' : TA} (h : PA X e t) (i : ∀ σ H Q, t' σ H Q → t σ H Q) : PA X e t' := ⟨fun pos pins s σ H Q I q => h.run pos pins s σ H Q I (i σ H Q q)⟩
theorem _root_.L2.PSs.of {X : Cx} {e : List Stmt} {t t' : TS} (h : PSs X e t) (i : ∀ D σ H, t' D σ H → t D σ H) : PSs X e t' := ⟨fun pins s σ H D I q => h.run pins s σ H D I (i D σ H q)⟩
theorem _root_.L2.PS.of {X : Cx} {e : Stmt} {t t' : TS} (h : PS X e t) (i : ∀ D σ H, t' D σ H → t D σ H) : PS X e t' := ⟨fun pins s σ H D I q => h.run pins s σ H D I (i D σ H q)⟩
theorem _root_.L2.PI.of {X : Cx} {tg e : Expr} {t t' : TI} (h : PI X tg e t) (i : ∀ σ H R, t' σ H R → t σ H R) : PI X tg e t' := ⟨fun pins s σ H R I q => h.run pins s σ H R I (i σ H R q)⟩

/-- arguments: the chain comes to a tuple of them -/
def tA (g : GW) (W : WX) (f : Rho → Sto → Res) : TA := fun σ H Q => ∃ fb m ρ S o, RS (g.w fb) m σ H ρ S ∧ f ρ S = some o ∧ (match o with
  | .ok (.tup l) S' => ∀ vs m' H', Ext m H m' H' → SRep (g.w fb) m' H' S' → RepL (g.w fb) m' H' l vs → Q vs H'
  | .ok _ _ => False
  | .ex c p S' => ∀ cls d m' H', Ext m H m' H' → SRep (g.w fb) m' H' S' → XRep (g.w fb) H' c p cls d → W cls d σ H')
end Fw

namespace Fw
open PySem L2 PyProof.Rows

/-! ### a text held against the small language -/
structure Gm where
  N : List Str
  sc : Scope
  fnT : Bool
  fname : Nat → Option Str
  cname : Nat → Option Str
  ename : Nat → Option Str
  blt : List Str

def isNm (o : Option Str) (x : Str) : Bool := match o with
  | some y => y == x
  | none => false
def isKind (sc : Scope) (x : Str) (k : NameKind) : Bool := decide (sc.names.lookup x = some k)
def dbg (x : Str) : Bool := !(x == ("__debug__" : Str)) && !(x == ("__classdict__" : Str))
def glb (G : Gm) (x : Str) : Bool := isKind G.sc x .globalImplicit && dbg x
def visB (sc : Scope) (x : Str) : Bool := isKind sc x .local || isKind sc x .cell || isKind sc x .free
/-- a built-in's name, as a built-in -/
def bltB (G : Gm) (x : Str) : Bool := glb G x && G.blt.contains x && !(x == ("__name__" : Str))
def noStar (e : Expr) : Bool := match e with
  | .Starred _ _ => false
  | _ => true
def noSet (e : Expr) : Bool := match e with
  | .Set _ _ _ => false
  | _ => true
def noSup (e : Expr) : Bool := match e with
  | .Call _ _ _ _ => false
  | _ => true
def noComp (e : Expr) : Bool := match e with
  | .ListComp _ _ _ _ => false
  | .SetComp _ _ _ _ => false
  | .DictComp _ _ _ _ _ => false
  | _ => true
def noIf (e : Expr) : Bool := match e with
  | .IfExp _ _ _ _ => false
  | _ => true

def Bl.nm : Bl → Str
  | .len => "len" | .abs => "abs" | .int => "int" | .bool => "bool" | .str => "str" | .max => "max" | .min => "min" | .all => "all" | .tuple => "tuple" | .list => "list"
def Mt.nm : Mt → Str
  | .upper => "upper" | .split => "split" | .join => "join"

/-! views of a text -/
def vConst : Expr → Option Const
  | .Constant c _ _ => some c
  | _ => none
def vName : Expr → Option Str
  | .Name x _ => some x
  | _ => none
def vTup : Expr → Option (List Expr)
  | .Tuple es _ _ => some es
  | _ => none
def vLst : Expr → Option (List Expr)
  | .List es _ => some es
  | _ => none
def vBin : Expr → Option (Expr × Operator × Expr)
  | .BinOp a o b _ => some (a, o, b)
  | _ => none
def vCmp : Expr → Option (Expr × CmpOp × Expr)
  | .Compare a [o] [b] _ => some (a, o, b)
  | _ => none
def vChn : Expr → Option (Expr × CmpOp × Expr × CmpOp × Expr)
  | .Compare a [o, o'] [b, c] _ => some (a, o, b, o', c)
  | _ => none
def vNeg : Expr → Option Expr
  | .UnaryOp .USub a _ => some a
  | _ => none
def vNot : Expr → Option Expr
  | .UnaryOp .Not a _ => some a
  | _ => none
/-- x and y; x and (the rest) -/
def vAnd : Expr → Option (Expr × Expr)
  | .BoolOp .And [x, y] _ => some (x, y)
  | .BoolOp .And (x :: y :: z :: r) p => some (x, .BoolOp .And (y :: z :: r) p)
  | _ => none
def vOr : Expr → Option (Expr × Expr)
  | .BoolOp .Or [x, y] _ => some (x, y)
  | .BoolOp .Or (x :: y :: z :: r) p => some (x, .BoolOp .Or (y :: z :: r) p)
  | _ => none
def vIfE : Expr → Option (Expr × Expr × Expr)
  | .IfExp c a b _ => some (c, a, b)
  | _ => none
def vIx : Expr → Option (Expr × Expr)
  | .Subscript _ (.Slice _ _ _ _) _ => none
  | .Subscript a b _ => some (a, b)
  | _ => none
def vSl : Expr → Option (Expr × Option Expr × Option Expr)
  | .Subscript a (.Slice l h none _) _ => some (a, l, h)
  | _ => none
def vRev : Expr → Option Expr
  | .Subscript a (.Slice none none (some (.UnaryOp .USub (.Constant (.int 1) _ _) _)) _) _ => some a
  | _ => none
def vCall : Expr → Option (Str × List Expr)
  | .Call (.Name x _) (e :: r) [] _ => some (x, e :: r)
  | _ => none
def vMth : Expr → Option (Expr × Str × List Expr)
  | .Call (.Attribute o n ap) r [] pos => if ap.endLine == pos.line then some (o, n, r) else none
  | _ => none
def vLc : Expr → Option (Expr × Expr × Expr × List Expr × Scope)
  | .ListComp e [⟨t, it, c, 0⟩] scope _ => some (e, t, it, c, scope)
  | _ => none

def chkT (G : Gm) : Tg → Expr → Bool
  | .nm i, e => (match vName e with
    | some x => decide (G.N[i]? = some x) && (isKind G.sc x .local || (isKind G.sc x .cell && G.fnT))
    | none => false)
  | .tp a, e => (match vTup e with
    | some es => chkTs G a es
    | none => false)
  | _, _ => false
where chkTs (G : Gm) : Tg → List Expr → Bool
  | .nl, es => es.isEmpty
  | .cn a b, es => (match es with
    | e :: r => chkT G a e && chkTs G b r
    | [] => false)
  | _, _ => false

def slots : Tg → List Nat
  | .nm i => [i]
  | .nl => []
  | .cn a b => slots a ++ slots b
  | .tp a => slots a
def Gm.blk (G : Gm) (scope : Scope) : Gm := { G with sc := relS scope G.sc, fnT := false }
def lits (G : Gm) (v : T) (e : Expr) : Bool := match v with
  | .non => (match vConst e with | some .none => true | _ => false)
  | .bl b => (match vConst e with | some (.bool c) => b == c | _ => false)
  | .int b => (match vConst e with | some (.int c) => b == c | _ => false)
  | .str b => (match vConst e with | some (.str c) => b == c | _ => false)
  | .fn f => (match vName e with | some x => isNm (G.fname f) x && glb G x | none => false)
  | _ => false
def isYes (a : IE) : Bool := match a with
  | .lit (.bl true) => true
  | _ => false

def is0 (m : Mt) : Bool := match m with
  | .upper => true
  | _ => false
/-- pairs are taken apart by a written tuple -/
def isPair (src : IE) (t : Expr) : Bool := match src with
  | .zp _ _ => (vTup t).isSome
  | .en _ => (vTup t).isSome
  | _ => true
mutual
def chkE (G : Gm) : IE → Expr → Bool
  | .lit v, e => lits G v e
  | .var i, e => (match vName e with | some x => decide (G.N[i]? = some x) && visB G.sc x && dbg x | none => false)
  | .cst c, e => (match vName e with | some x => isNm (G.cname c) x && glb G x | none => false)
  | .tup es, e => (match vTup e with | some xs => chkA G es xs | none => false)
  | .lst _ es, e => (match vLst e with | some xs => chkA G es xs | none => false)
  | .op _ o a b, e => (match vBin e with | some (x, p, y) => decide (o = p) && (chkE G a x && chkE G b y) | none => false)
  | .cmp o a b, e => (match vCmp e with | some (x, p, y) => decide (o = p) && (chkE G a x && (chkE G b y && noSet y)) | none => false)
  | .chn o o' a b c, e => (match vChn e with | some (x, p, y, p', z) => decide (o = p) && (decide (o' = p') && (chkE G a x && (chkE G b y && (chkE G c z && (noSet y && noSet z))))) | none => false)
  | .neg a, e => (match vNeg e with | some x => chkE G a x | none => false)
  | .not a, e => (match vNot e with | some x => chkE G a x && noIf x | none => false)
  | .and a b, e => (match vAnd e with | some (x, y) => chkE G a x && (chkE G b y && (noIf x && noIf y)) | none => false)
  | .or a b, e => (match vOr e with | some (x, y) => chkE G a x && (chkE G b y && (noIf x && noIf y)) | none => false)
  | .ite c a b, e => (match vIfE e with | some (z, x, y) => chkE G c z && (chkE G a x && (chkE G b y && noIf z)) | none => false)
  | .ix a b, e => (match vIx e with | some (x, y) => chkE G a x && chkE G b y | none => false)
  | .sl _ a lo hi, e => (match vSl e with | some (x, l, h) => chkE G a x && ((match l with | some y => chkE G lo y && !isNil lo | none => isNil lo) && (match h with | some y => chkE G hi y && !isNil hi | none => isNil hi)) | none => false)
  | .rev _ a, e => (match vRev e with | some x => chkE G a x | none => false)
  | .call f es, e => (match vCall e with | some (x, r) => isNm (G.fname f) x && (glb G x && chkA G es r) | none => false)
  | .blt _ b es, e => (match vCall e with | some (x, r) => (b.nm == x) && (bltB G x && chkA G es r) | none => false)
  | .isi a ty, e => (match vCall e with
    | some (x, [y, z]) => (match vName z with
      | some w => (x == ("isinstance" : Str)) && ((w == Str.ofString ty) && (bltB G x && (bltB G w && (["int", "bool", "str", "tuple", "list"].contains ty && (chkE G a y && noStar y)))))
      | none => false)
    | _ => false)
  | .mt0 m o, e => (match vMth e with | some (x, n, []) => (m.nm == n) && (is0 m && (noSup x && chkE G o x)) | _ => false)
  | .mt1 m o a, e => (match vMth e with | some (x, n, [y]) => (m.nm == n) && (!is0 m && (noSup x && (noStar y && (chkE G o x && chkE G a y)))) | _ => false)
  | .lc _ own elt tg src cnd, e => (match vLc e with
    | some (x, t, it, cs, scope) => blkC G.N G.sc scope (own.map fun i => (G.N.getD i "", i)) && ((slots tg).all (own.contains ·) && (chkT (G.blk scope) tg t && ((isPair src t && (chkI G src it && noSet it)) && (chkE (G.blk scope) elt x && (match cs with
      | [] => isYes cnd
      | [c] => chkE (G.blk scope) cnd c && noIf c
      | _ => false)))))
    | none => false)
  | _, _ => false
def chkA (G : Gm) : IE → List Expr → Bool
  | .nil, es => es.isEmpty
  | .cons a b, es => (match es with | e :: r => chkE G a e && (noStar e && chkA G b r) | [] => false)
  | _, _ => false
def chkI (G : Gm) : IE → Expr → Bool
  | .sq a, e => chkE G a e && noSet e
  | .rg1 a, e => (match vCall e with | some (x, [y]) => (x == ("range" : Str)) && (bltB G x && (chkE G a y && noStar y)) | _ => false)
  | .rg2 a b, e => (match vCall e with | some (x, [y, z]) => (x == ("range" : Str)) && (bltB G x && (chkE G a y && (chkE G b z && (noStar y && noStar z)))) | _ => false)
  | .zp a b, e => (match vCall e with | some (x, [y, z]) => (x == ("zip" : Str)) && (bltB G x && (chkE G a y && (chkE G b z && (noStar y && noStar z)))) | _ => false)
  | .en a, e => (match vCall e with | some (x, [y]) => (x == ("enumerate" : Str)) && (bltB G x && (chkE G a y && noStar y)) | _ => false)
  | _, _ => false
end
def chkO (G : Gm) (a : IE) (o : Option Expr) : Bool := match o with
  | some e => chkE G a e && !isNil a
  | none => isNil a

/-! ### statements -/
/-- how a written tuple is stored into a written tuple of names: none where the library has no word -/
def swN (sc : Scope) (ts vs : List Expr) : Option (Option (List Str)) :=
  if (!(ts.length == 2 || ts.length == 3) || vs.length != ts.length) = true then some none else
  if (vs.any fun | .Starred .. => true | _ => false) = true then some none else
  if ((ts.filterMap fun
    | .Name id pos => if sc.names.lookup id == some .local && pos.line == (ts.head?.map (·.pos.line)).getD 0 then some id else none
    | _ => none).length != ts.length || (ts.filterMap fun
    | .Name id pos => if sc.names.lookup id == some .local && pos.line == (ts.head?.map (·.pos.line)).getD 0 then some id else none
    | _ => none).eraseDups.length != (ts.filterMap fun
    | .Name id pos => if sc.names.lookup id == some .local && pos.line == (ts.head?.map (·.pos.line)).getD 0 then some id else none
    | _ => none).length) = true then some none else
  if vs.all (foldedForSure 8) = true then some none else
  if vs.all (constantsAlone 8) = true then none else
  some (some (ts.filterMap fun
    | .Name id pos => if sc.names.lookup id == some .local && pos.line == (ts.head?.map (·.pos.line)).getD 0 then some id else none
    | _ => none))
/-- stored as one value -/
def asOne (G : Gm) (ts : List Expr) (v : Expr) : Bool := match vTup v with
  | some vs => decide (swN G.sc ts vs = some none)
  | none => true
/-- a comprehension whose list goes straight to the name -/
def swC (G : Gm) (x : Str) (l : Nat) (v : Expr) : Bool := match v with
  | .ListComp _ _ scope p => isKind G.sc x .local && (l == p.line) && !(scope.names.any fun (n, k) => n == x && (k == .local || k == .cell))
  | _ => false

inductive VS where
  | pass | brk | cnt | ret (e : Option Expr) | expr (e : Expr) | asg (t : Expr) (v : Expr) (l : Nat) | iff (c : Expr) (a b : List Stmt)
  | for_ (t i : Expr) (b : List Stmt) | whl (c : Expr) (b : List Stmt) | rs (e : Expr)
def vS : Stmt → Option VS
  | .Pass _ => some .pass
  | .Break _ => some .brk
  | .Continue _ => some .cnt
  | .Return e _ => some (.ret e)
  | .Expr e _ => some (.expr e)
  | .Assign [t] v _ => some (.asg t v t.pos.line)
  | .If c a b _ => some (.iff c a b)
  | .For t i b [] _ => some (.for_ t i b)
  | .While c b [] _ => some (.whl c b)
  | .Raise (some e) none _ => some (.rs e)
  | _ => none
def vSub : Expr → Option (Expr × Expr)
  | .Subscript _ (.Slice _ _ _ _) _ => none
  | .Subscript a b _ => some (a, b)
  | _ => none
def vRs : Expr → Option Str
  | .Call (.Name x _) [.Constant (.str _) _ _] [] _ => some x
  | _ => none
def vName2 : List Expr → Option (Str × Str)
  | [.Name x _, .Name y _] => some (x, y)
  | _ => none
def vName3 : List Expr → Option (Str × Str × Str)
  | [.Name x _, .Name y _, .Name z _] => some (x, y, z)
  | _ => none

mutual
def chkS (G : Gm) : IS → Stmt → Bool
  | .pass, s => (match vS s with | some .pass => true | _ => false)
  | .brk, s => (match vS s with | some .brk => true | _ => false)
  | .cnt, s => (match vS s with | some .cnt => true | _ => false)
  | .ret e, s => (match vS s with | some (.ret (some x)) => chkE G e x | some (.ret none) => (match e with | .lit .non => true | _ => false) | _ => false)
  | .expr e, s => (match vS s with | some (.expr x) => chkE G e x && noComp x | _ => false)
  | .asg tg e, s => (match vS s with
    | some (.asg t v l) => chkT G tg t && (chkE G e v && (match vName t with
      | some x => noComp v || swC G x l v
      | none => (match vTup t with
        | some ts => noComp v && asOne G ts v
        | none => false)))
    | _ => false)
  | .par2 i j es, s => (match vS s with
    | some (.asg t v l) => (match vTup t with
      | some ts => (match vTup v with
        | some vs => (match vName2 ts with
          | some (x, y) => decide (G.N[i]? = some x) && (decide (G.N[j]? = some y) && (decide (i ≠ j) && (isKind G.sc x .local && (isKind G.sc y .local && (decide (swN G.sc ts vs = some (some [x, y])) && (chkA G es vs && decide (vs.length = 2)))))))
          | none => false)
        | none => false)
      | none => false)
    | _ => false)
  | .par3 i j k es, s => (match vS s with
    | some (.asg t v l) => (match vTup t with
      | some ts => (match vTup v with
        | some vs => (match vName3 ts with
          | some (x, y, z) => decide (G.N[i]? = some x) && (decide (G.N[j]? = some y) && (decide (G.N[k]? = some z) && (decide (i ≠ j) && (decide (i ≠ k) && (decide (j ≠ k) && (isKind G.sc x .local && (isKind G.sc y .local && (isKind G.sc z .local && (decide (swN G.sc ts vs = some (some [x, y, z])) && (chkA G es vs && decide (vs.length = 3)))))))))))
          | none => false)
        | none => false)
      | none => false)
    | _ => false)
  | .sub o i e, s => (match vS s with
    | some (.asg t v _) => (match vSub t with
      | some (x, y) => chkE G o x && (chkE G i y && chkE G e v)
      | none => false)
    | _ => false)
  | .app o e, s => (match vS s with
    | some (.expr x) => (match vMth x with
      | some (ob, n, [y]) => (n == ("append" : Str)) && (noSup ob && (noStar y && (chkE G o ob && chkE G e y)))
      | _ => false)
    | _ => false)
  | .iff c a b, s => (match vS s with | some (.iff x p q) => chkE G c x && (noIf x && (chkB G a p && chkB G b q)) | _ => false)
  | .for_ tg src b, s => (match vS s with | some (.for_ t it p) => chkT G tg t && (isPair src t && (chkI G src it && (noSet it && chkB G b p))) | _ => false)
  | .whl c b, s => (match vS s with | some (.whl x p) => chkE G c x && (noIf x && chkB G b p) | _ => false)
  | .rs c, s => (match vS s with | some (.rs e) => (match vRs e with | some x => isNm (G.ename c) x && glb G x | none => false) | _ => false)
  | _, _ => false
def chkB (G : Gm) : IS → List Stmt → Bool
  | .skip, l => l.isEmpty
  | .seq a b, l => (match l with | s :: r => chkS G a s && chkB G b r | [] => false)
  | _, _ => false
end
end Fw

namespace Fw
open PySem L2 PyProof.Rows

/-- as Rep, but a list may be a box's -/
def RepD (g : GW) (m : List Addr) (H : Hp) (t : T) (v : V) : Prop := match t with
  | .lst l => ∃ a vs, v = .ref a ∧ H a = some (.lst vs) ∧ RepL g m H l vs
  | t => Rep g m H t v

theorem RepD.of {g : GW} {m : List Addr} {H : Hp} {t : T} {v : V} (h : Rep g m H t v) : RepD g m H t v := by
  cases t with
  | lst l =>
    simp only [Rep] at h
    obtain ⟨a, vs, h1, _, _, h3, h4⟩ := h
    exact ⟨a, vs, h1, h3, h4⟩
  | _ => exact h

theorem RepD.drf {g : GW} {m : List Addr} {H : Hp} {S : Sto} {t : T} {v : V} (sr : SRep g m H S) (h : Rep g m H t v) : RepD g m H (drf S t) v := by
  cases t with
  | box n =>
    show RepD g m H (match S[n]? with | some (.lst l) => .lst l | _ => .box n) v
    have h' := h
    simp only [Rep] at h
    obtain ⟨a, h1, h2⟩ := h
    cases e : S[n]? with
    | none => exact RepD.of h'
    | some ob =>
      cases ob with
      | lst l =>
        obtain ⟨vs, q1, q2⟩ := sr.at_ n _ a e h1
        exact ⟨a, vs, h2, q1, q2⟩
      | dct _ => exact RepD.of h'
      | ins _ _ => exact RepD.of h'
  | _ => exact RepD.of h

theorem RepL.length {g : GW} {m : List Addr} {H : Hp} : ∀ {ts : List T} {vs : List V}, RepL g m H ts vs → ts.length = vs.length
  | [], vs, h => by simp only [RepL] at h; subst h; rfl
  | t :: ts, vs, h => by
    simp only [RepL] at h
    obtain ⟨v, r, rfl, _, q⟩ := h
    simp [RepL.length q]
theorem RepL.get {g : GW} {m : List Addr} {H : Hp} : ∀ {ts : List T} {vs : List V} {i : Nat} {t : T}, RepL g m H ts vs → ts[i]? = some t → ∃ v, vs[i]? = some v ∧ Rep g m H t v
  | [], vs, i, t, h, e => by simp at e
  | t :: ts, vs, 0, u, h, e => by
    simp only [RepL] at h
    obtain ⟨v, r, rfl, h1, q⟩ := h
    simp at e; subst e
    exact ⟨v, rfl, h1⟩
  | t :: ts, vs, i + 1, u, h, e => by
    simp only [RepL] at h
    obtain ⟨v, r, rfl, h1, q⟩ := h
    simp at e
    obtain ⟨w, h2, h3⟩ := RepL.get q e
    exact ⟨w, by simpa using h2, h3⟩
theorem RepL.append {g : GW} {m : List Addr} {H : Hp} : ∀ {ts us : List T} {vs ws : List V}, RepL g m H ts vs → RepL g m H us ws → RepL g m H (ts ++ us) (vs ++ ws)
  | [], us, vs, ws, h, q => by simp only [RepL] at h; subst h; exact q
  | t :: ts, us, vs, ws, h, q => by
    simp only [RepL] at h
    obtain ⟨v, r, rfl, h1, h2⟩ := h
    show RepL g m H (t :: (ts ++ us)) (v :: (r ++ ws))
    simp only [RepL]
    exact ⟨v, r ++ ws, rfl, h1, RepL.append h2 q⟩
theorem RepL.drop {g : GW} {m : List Addr} {H : Hp} : ∀ {ts : List T} {vs : List V} (n : Nat), RepL g m H ts vs → RepL g m H (ts.drop n) (vs.drop n)
  | ts, vs, 0, h => h
  | [], vs, n + 1, h => by simp only [RepL] at h; subst h; simp [RepL]
  | t :: ts, vs, n + 1, h => by
    simp only [RepL] at h
    obtain ⟨v, r, rfl, h1, h2⟩ := h
    exact RepL.drop n h2
theorem RepL.take {g : GW} {m : List Addr} {H : Hp} : ∀ {ts : List T} {vs : List V} (n : Nat), RepL g m H ts vs → RepL g m H (ts.take n) (vs.take n)
  | ts, vs, 0, h => by simp [RepL]
  | [], vs, n + 1, h => by simp only [RepL] at h; subst h; simp [RepL]
  | t :: ts, vs, n + 1, h => by
    simp only [RepL] at h
    obtain ⟨v, r, rfl, h1, h2⟩ := h
    show RepL g m H (t :: ts.take n) (v :: r.take n)
    simp only [RepL]
    exact ⟨v, r.take n, rfl, h1, RepL.take n h2⟩
theorem RepL.set {g : GW} {m : List Addr} {H : Hp} : ∀ {ts : List T} {vs : List V} (n : Nat) {t : T} {v : V}, RepL g m H ts vs → Rep g m H t v → RepL g m H (ts.set n t) (vs.set n v)
  | [], vs, n, t, v, h, q => by simp only [RepL] at h; subst h; simp [RepL]
  | u :: ts, vs, 0, t, v, h, q => by
    simp only [RepL] at h
    obtain ⟨w, r, rfl, h1, h2⟩ := h
    show RepL g m H (t :: ts) (v :: r)
    simp only [RepL]
    exact ⟨v, r, rfl, q, h2⟩
  | u :: ts, vs, n + 1, t, v, h, q => by
    simp only [RepL] at h
    obtain ⟨w, r, rfl, h1, h2⟩ := h
    show RepL g m H (u :: ts.set n t) (w :: r.set n v)
    simp only [RepL]
    exact ⟨w, r.set n v, rfl, h1, RepL.set n h2 q⟩
theorem RepL.reverse {g : GW} {m : List Addr} {H : Hp} : ∀ {ts : List T} {vs : List V}, RepL g m H ts vs → RepL g m H ts.reverse vs.reverse
  | [], vs, h => by simp only [RepL] at h; subst h; simp [RepL]
  | t :: ts, vs, h => by
    simp only [RepL] at h
    obtain ⟨v, r, rfl, h1, h2⟩ := h
    rw [List.reverse_cons, List.reverse_cons]
    refine RepL.append (RepL.reverse h2) ?_
    simp only [RepL]
    exact ⟨v, [], rfl, h1, rfl⟩
theorem RepL.rep {g : GW} {m : List Addr} {H : Hp} {ts : List T} {vs : List V} (h : RepL g m H ts vs) : ∀ k : Nat, RepL g m H (List.replicate k ts).flatten (List.replicate k vs).flatten
  | 0 => by simp [RepL]
  | k + 1 => by
    rw [List.replicate_succ, List.replicate_succ, List.flatten_cons, List.flatten_cons]
    exact RepL.append h (RepL.rep h k)
theorem RepL.nil {g : GW} {m : List Addr} {H : Hp} : RepL g m H [] [] := by simp [RepL]
theorem RepL.cons {g : GW} {m : List Addr} {H : Hp} {t : T} {v : V} {ts : List T} {vs : List V} (h : Rep g m H t v) (q : RepL g m H ts vs) : RepL g m H (t :: ts) (v :: vs) := by
  simp only [RepL]; exact ⟨v, vs, rfl, h, q⟩

section
variable {g : GW} {m : List Addr} {H : Hp} {v : V}
theorem Rep.bl_ {b : Bool} : Rep g m H (.bl b) (.bl b) := by simp [Rep]
theorem Rep.int_ {b : Int} : Rep g m H (.int b) (.int b) := by simp [Rep]
theorem Rep.str_ {b : Str} : Rep g m H (.str b) (.str b) := by simp [Rep]
theorem Rep.non_ : Rep g m H .non .non := by simp [Rep]
theorem RepD.int {i : Int} (h : RepD g m H (.int i) v) : v = .int i := by simpa [RepD, Rep] using h
theorem RepD.bl {i : Bool} (h : RepD g m H (.bl i) v) : v = .bl i := by simpa [RepD, Rep] using h
theorem RepD.str {i : Str} (h : RepD g m H (.str i) v) : v = .str i := by simpa [RepD, Rep] using h
theorem RepD.tup {l : List T} (h : RepD g m H (.tup l) v) : ∃ a vs, v = .ref a ∧ SqT g.K H a vs ∧ RepL g m H l vs := by
  simp only [RepD, Rep] at h
  obtain ⟨a, vs, h1, h2, h3⟩ := h
  refine ⟨a, vs, h1, ?_, h3⟩
  rcases h2 with ⟨_, _, h2⟩ | h2
  · exact .inl h2
  · exact .inr h2
theorem RepD.lst {l : List T} (h : RepD g m H (.lst l) v) : ∃ a vs, v = .ref a ∧ H a = some (.lst vs) ∧ RepL g m H l vs := h
theorem RepD.scr {l : List Int} (h : RepD g m H (.scr l) v) : ∃ a, v = .ref a ∧ SqL g.K H a (l.map V.int) := by
  simp only [RepD, Rep] at h
  obtain ⟨a, h1, h2⟩ := h
  refine ⟨a, h1, ?_⟩
  rcases h2 with ⟨_, _, h2⟩ | h2
  · exact .inl h2
  · exact .inr h2

/-! what is to be reached, reached -/
variable {W : WX} {σ : L2.St} {Q : VK} {S : Sto}
theorem fin_val {t : T} (G : GoodE g W m σ H Q (.ok t S)) (sr : SRep g m H S) (r : Rep g m H t v) : Q v H := G v m H (Ext.refl _ _) sr r
theorem fin_lst {bx : Bool} {l : List T} {vs : List V} (G : GoodE g W m σ H Q (newL bx (.lst l) S)) (sr : SRep g m H S) (r : RepL g m H l vs) : ∀ p, H p = none → Q (.ref p) (upd H p (.lst vs)) := fun p hp => by
  cases bx with
  | true =>
    refine G (.ref p) (m ++ [p]) _ (Ext.box hp) (sr.box hp r) ?_
    simp only [Rep]
    exact ⟨p, by rw [← sr.len]; simp, rfl⟩
  | false =>
    refine G (.ref p) m _ (Ext.new hp) (sr.new hp) ?_
    simp only [Rep]
    exact ⟨p, vs, rfl, sr.fresh hp, sr.freshF hp, upd_same, RepL.mono (Ext.new hp) l r⟩
theorem fin_tup {l : List T} {vs : List V} (G : GoodE g W m σ H Q (.ok (.tup l) S)) (sr : SRep g m H S) (r : RepL g m H l vs) : ∀ p, H p = none → Q (.ref p) (upd H p (.tup vs)) := fun p hp => by
  refine G (.ref p) m _ (Ext.new hp) (sr.new hp) ?_
  simp only [Rep]
  exact ⟨p, vs, rfl, .inl ⟨sr.fresh hp, sr.freshF hp, .inl upd_same⟩, RepL.mono (Ext.new hp) l r⟩
end

theorem line_eq : line = sizeLine := by rw [sizeLine_eq]; rfl

/-! ### truth -/
theorem tru_of {g : GW} {K : PySem.W.Frag} {m : List Addr} {H : Hp} {S : Sto} {t : T} {v : V} {b : Bool} (sr : SRep g m H S) (r : Rep g m H t v) (h : truthy S t = some b) (hK : g.K = K := by rfl) : TruV K v H b := by
  subst hK
  cases t with
  | non => simp only [Rep] at r; subst r; simp [truthy] at h; exact h
  | bl b => simp only [Rep] at r; subst r; simp [truthy] at h; exact h.symm
  | int i => simp only [Rep] at r; subst r; simp [truthy] at h; exact h.symm
  | str s =>
    simp only [Rep] at r; subst r
    simp only [truthy] at h
    split at h
    · rename_i q
      rw [line_eq] at q
      refine ⟨q, ?_⟩
      simp at h
      rw [← h]
      cases hl : s.length with
      | zero => rfl
      | succ n =>
        simp [bne, BEq.beq]
        omega
    · cases h
  | tup l =>
    obtain ⟨a, vs, rfl, q, rl⟩ := RepD.tup (RepD.of r)
    simp only [truthy, Option.some.injEq] at h
    refine .inr (.inl ⟨vs, q, ?_⟩)
    rw [← h]
    have := rl.length
    cases l <;> cases vs <;> simp_all
  | lst l =>
    obtain ⟨a, vs, rfl, q, rl⟩ := RepD.lst (RepD.of r)
    simp only [truthy, Option.some.injEq] at h
    refine .inl ⟨vs, SqL.of q, ?_⟩
    rw [← h]
    have := rl.length
    cases l <;> cases vs <;> simp_all
  | box n =>
    simp only [truthy] at h
    simp only [Rep] at r
    obtain ⟨a, h1, rfl⟩ := r
    split at h
    · rename_i l e
      obtain ⟨vs, q1, rl⟩ := sr.at_ n _ a e h1
      simp only [Option.some.injEq] at h
      refine .inl ⟨vs, SqL.of q1, ?_⟩
      rw [← h]
      have := rl.length
      cases l <;> cases vs <;> simp_all
    · cases h
  | fn f => simp [truthy] at h
  | scr l => simp [truthy] at h

/-! ### data -/
mutual
theorem rep_dp {g : GW} {m : List Addr} {H : Hp} : ∀ (t : T) {v : V} {d : PyData}, RepD g m H t v → toD t = some d → Dp g.K H v d
  | .non, v, d, r, e => by
    simp only [RepD, Rep] at r; subst r; simp only [toD, Option.some.injEq] at e; subst e; exact .non
  | .bl b, v, d, r, e => by
    simp only [RepD, Rep] at r; subst r; simp only [toD, Option.some.injEq] at e; subst e; exact .bl b
  | .int b, v, d, r, e => by
    simp only [RepD, Rep] at r; subst r; simp only [toD, Option.some.injEq] at e; subst e; exact .int b
  | .str b, v, d, r, e => by
    simp only [RepD, Rep] at r; subst r; simp only [toD, Option.some.injEq] at e; subst e; exact .str b
  | .tup l, v, d, r, e => by
    obtain ⟨a, vs, rfl, q, rl⟩ := RepD.tup r
    simp only [toD] at e
    cases h : toDs l with
    | none => rw [h] at e; cases e
    | some ds =>
      rw [h] at e
      simp only [Option.some.injEq] at e; subst e
      exact .tup q (rep_dps l rl h)
  | .lst l, v, d, r, e => by
    obtain ⟨a, vs, rfl, q, rl⟩ := RepD.lst r
    simp only [toD] at e
    cases h : toDs l with
    | none => rw [h] at e; cases e
    | some ds =>
      rw [h] at e
      simp only [Option.some.injEq] at e; subst e
      exact .lst (SqL.of q) (rep_dps l rl h)
  | .box n, v, d, r, e => by simp [toD] at e
  | .fn n, v, d, r, e => by simp [toD] at e
  | .scr n, v, d, r, e => by simp [toD] at e
theorem rep_dps {g : GW} {m : List Addr} {H : Hp} : ∀ (ts : List T) {vs : List V} {ds : List PyData}, RepL g m H ts vs → toDs ts = some ds → DpAll g.K H vs ds
  | [], vs, ds, r, e => by
    simp only [RepL] at r; subst r; simp only [toDs, Option.some.injEq] at e; subst e; exact .nil
  | t :: ts, vs, ds, r, e => by
    simp only [RepL] at r
    obtain ⟨v, r', rfl, h1, h2⟩ := r
    simp only [toDs] at e
    cases h3 : toD t with
    | none => rw [h3] at e; cases e
    | some d =>
      rw [h3] at e
      cases h4 : toDs ts with
      | none => rw [h4] at e; cases e
      | some es =>
        rw [h4] at e
        simp only [Option.some.injEq] at e; subst e
        exact .cons (rep_dp t (RepD.of h1) h3) (rep_dps ts h2 h4)
end
mutual
theorem toD_plain : ∀ (t : T) {d : PyData}, toD t = some d → d.plain = true
  | .non, d, e => by simp only [toD, Option.some.injEq] at e; subst e; rfl
  | .bl b, d, e => by simp only [toD, Option.some.injEq] at e; subst e; rfl
  | .int b, d, e => by simp only [toD, Option.some.injEq] at e; subst e; rfl
  | .str b, d, e => by simp only [toD, Option.some.injEq] at e; subst e; rfl
  | .tup l, d, e => by
    simp only [toD] at e
    cases h : toDs l with
    | none => rw [h] at e; cases e
    | some ds =>
      rw [h] at e
      simp only [Option.some.injEq] at e; subst e
      have := toDs_plain l h
      simpa [PyData.plain] using this
  | .lst l, d, e => by
    simp only [toD] at e
    cases h : toDs l with
    | none => rw [h] at e; cases e
    | some ds =>
      rw [h] at e
      simp only [Option.some.injEq] at e; subst e
      have := toDs_plain l h
      simpa [PyData.plain] using this
  | .box n, d, e => by simp [toD] at e
  | .fn n, d, e => by simp [toD] at e
  | .scr n, d, e => by simp [toD] at e
theorem toDs_plain : ∀ (ts : List T) {ds : List PyData}, toDs ts = some ds → PyData.plainAll ds = true
  | [], ds, e => by simp only [toDs, Option.some.injEq] at e; subst e; rfl
  | t :: ts, ds, e => by
    simp only [toDs] at e
    cases h3 : toD t with
    | none => rw [h3] at e; cases e
    | some d =>
      rw [h3] at e
      cases h4 : toDs ts with
      | none => rw [h4] at e; cases e
      | some es =>
        rw [h4] at e
        simp only [Option.some.injEq] at e; subst e
        simp [PyData.plainAll, toD_plain t h3, toDs_plain ts h4]
end
end Fw

namespace Fw
open PySem L2 PyProof.Rows

/-! ### operators, by values -/
def rB (g : GW) (o : Operator) : R2 := fun x y H Q => ∃ W m σ S bx s t u, SRep g m H S ∧ RepD g m H s x ∧ RepD g m H t y ∧ bop o s t = some u ∧ GoodE g W m σ H Q (newL bx u S)

theorem newL_ne {bx : Bool} {t : T} {S : Sto} (h : ∀ l, t ≠ .lst l) : newL bx t S = .ok t S := by
  cases t <;> first | rfl | exact absurd rfl (h _)

theorem non_iff {g : GW} {m : List Addr} {H : Hp} {t : T} {v : V} (r : Rep g m H t v) : decide (v = V.non) = (match t with | .non => true | _ => false) := by
  cases t <;> simp only [Rep] at r
  case non => subst r; rfl
  case bl => subst r; rfl
  case int => subst r; rfl
  case str => subst r; rfl
  case fn => subst r; rfl
  case box => obtain ⟨a, _, rfl⟩ := r; rfl
  case scr => obtain ⟨a, rfl, _⟩ := r; rfl
  case tup => obtain ⟨a, vs, rfl, _⟩ := r; rfl
  case lst => obtain ⟨a, vs, rfl, _⟩ := r; rfl

section
variable {X : Cx} {g : GW}

theorem op_b (hK : X.K = g.K) (o : Operator) : OpR X (binaryOp o) (rB g o) := by
  intro pins s σ H x y v u Q I rx ry h
  obtain ⟨W, m, σ', S, bx, a, b, r, sr, ra, rb, e, G⟩ := h
  unfold bop at e
  split at e
  · -- int + int
    rename_i i j
    cases RepD.int ra; cases RepD.int rb
    simp only [Option.some.injEq] at e; subst e
    exact op_add pins s σ H _ _ v u Q I rx ry ⟨i, j, rfl, rfl, fin_val (t := .int _) G sr Rep.int_⟩
  · rename_i i j
    cases RepD.str ra; cases RepD.str rb
    split at e
    · rename_i hl
      simp only [Option.some.injEq] at e; subst e
      rw [line_eq] at hl
      exact op_add_str pins s σ H _ _ v u Q I rx ry ⟨i, j, rfl, rfl, hl, fin_val (t := .str _) G sr Rep.str_⟩
    · cases e
  · -- tuples
    rename_i k l
    obtain ⟨a1, vs, rfl, q1, l1⟩ := RepD.tup ra
    obtain ⟨b1, ws, rfl, q2, l2⟩ := RepD.tup rb
    split at e
    · rename_i hl
      simp only [Option.some.injEq] at e; subst e
      rw [line_eq, l1.length, l2.length] at hl
      rw [← hK] at q1 q2
      refine op_catA pins s σ H _ _ v u Q I rx ry ⟨a1, b1, vs, ws, rfl, rfl, q1, q2, hl, fun z => ?_, fun _ z => ?_, fun _ _ => fin_tup G sr (l1.append l2)⟩
      · subst z
        have : k = [] := List.eq_nil_of_length_eq_zero l1.length
        subst this
        exact fin_val (t := .tup l) G sr rb
      · subst z
        have : l = [] := List.eq_nil_of_length_eq_zero l2.length
        subst this
        rw [List.append_nil] at G
        exact fin_val (t := .tup k) G sr ra
    · cases e
  · rename_i k l
    obtain ⟨a1, vs, rfl, q1, l1⟩ := RepD.lst ra
    obtain ⟨b1, ws, rfl, q2, l2⟩ := RepD.lst rb
    split at e
    · rename_i hl
      simp only [Option.some.injEq] at e; subst e
      rw [line_eq, l1.length, l2.length] at hl
      exact op_cat pins s σ H _ _ v u Q I rx ry ⟨a1, b1, vs, ws, rfl, rfl, q1, q2, hl, fin_lst G sr (l1.append l2)⟩
    · cases e
  · rename_i i j
    cases RepD.int ra; cases RepD.int rb
    simp only [Option.some.injEq] at e; subst e
    exact op_sub pins s σ H _ _ v u Q I rx ry ⟨i, j, rfl, rfl, fin_val (t := .int _) G sr Rep.int_⟩
  · rename_i i j
    cases RepD.int ra; cases RepD.int rb
    split at e
    · rename_i hl
      simp only [Option.some.injEq] at e; subst e
      refine op_mul pins s σ H _ _ v u Q I rx ry ⟨i, j, rfl, rfl, ?_, fin_val (t := .int _) G sr Rep.int_⟩
      simpa [small64, CMul] using hl
    · cases e
  · rename_i l k
    obtain ⟨a1, vs, rfl, q1, l1⟩ := RepD.tup ra
    cases RepD.int rb
    split at e
    · rename_i hl
      simp only [Option.some.injEq] at e; subst e
      simp only [Bool.and_eq_true, decide_eq_true_eq, Bool.not_eq_true', List.isEmpty_eq_false_iff] at hl
      obtain ⟨⟨⟨h1, h2⟩, h3⟩, h4⟩ := hl
      rw [← hK] at q1
      refine op_repT pins s σ H _ _ v u Q I rx ry ⟨a1, k, vs, rfl, rfl, q1, ?_, h2, h3, by rw [← l1.length]; exact h4, ?_⟩
      · intro z; subst z
        have := l1.length
        simp at this
        exact h1 this
      · exact fin_tup G sr (l1.rep _)
    · cases e
  · rename_i i j
    cases RepD.int ra; cases RepD.int rb
    split at e
    · rename_i hl
      simp only [Option.some.injEq] at e; subst e
      refine op_fdiv pins s σ H _ _ v u Q I rx ry ⟨i, j, rfl, rfl, ?_, fin_val (t := .int _) G sr Rep.int_⟩
      simpa [CDiv] using hl
    · cases e
  · rename_i i j
    cases RepD.int ra; cases RepD.int rb
    split at e
    · rename_i hl
      simp only [Option.some.injEq] at e; subst e
      refine op_mod pins s σ H _ _ v u Q I rx ry ⟨i, j, rfl, rfl, ?_, fin_val (t := .int _) G sr Rep.int_⟩
      simpa using hl
    · cases e
  · rename_i i j
    cases RepD.int ra; cases RepD.int rb
    split at e
    · rename_i hl
      simp only [Option.some.injEq] at e; subst e
      refine op_pow pins s σ H _ _ v u Q I rx ry ⟨i, j, rfl, rfl, ?_, fin_val (t := .int _) G sr Rep.int_⟩
      simp only [Bool.and_eq_true, decide_eq_true_eq] at hl
      exact ⟨hl.1.1, hl.1.2, hl.2⟩
    · cases e
  · rename_i p j
    cases RepD.bl ra; cases RepD.int rb
    simp only [Option.some.injEq] at e; subst e
    cases rx
    obtain ⟨u, rfl⟩ := ry
    exact IntBool.add_bool_int ⟨.int _, H, I.tok _, ⟨_, rfl⟩, fin_val (t := .int _) G sr Rep.int_⟩
  · rename_i p j
    cases RepD.bl ra; cases RepD.int rb
    simp only [Option.some.injEq] at e; subst e
    cases rx
    obtain ⟨u, rfl⟩ := ry
    exact IntBool.sub_bool_int ⟨.int _, H, I.tok _, ⟨_, rfl⟩, fin_val (t := .int _) G sr Rep.int_⟩
  · cases e

theorem slot_bool_neg : Slot "bool" "__neg__" "int.__neg__" :=
  .of (owner := "int") (n := "__neg__") (by rw [typeLookup_type, builtinLookup_eq_fast]; kernel_rfl) (by decide +kernel) (by decide +kernel) (by decide +kernel)
    (by first | exact .inl (by decide +kernel) | exact .inr (by decide +kernel)) (by rw [isSubtype_type]; kernel_rfl)
theorem neg_bool {prog : Program} {w : World} {A : Around} {E : Value → Shared → Prop} {s : Shared} {a : Bool} {Q : Value → Shared → Prop} (h : Q (.int (-(if a = true then (1 : Int) else 0)) s.toks) { s with toks := s.toks + 1 }) : wpAny (model prog w) A (unaryOp .USub (.bool a)) Q E s := by
  unfold unaryOp
  refine wpAny_holding ?_
  refine wpAny_bind (m := callSpecial? (.bool a) (Str.ofString "__neg__")) (wpAny_callSpecial?_slot (name := Str.ofString "__neg__") rfl slot_bool_neg
    (wpAny_call_entry slot_bool_neg rfl entry_int_neg ?_ (args_int_neg _)))
  show wpAny _ _ (do ret (← mkInt (-(if a = true then (1 : Int) else 0)))) _ _ s
  exact wpAny_ret_mkInt (wpAny_pure h)
/-- - of an int or a bool -/
theorem un_ng : UnR X (unaryOp .USub) (fun x H Q => ∃ y, (∃ i, x = .int i ∧ y = -i) ∧ Q (.int y) H ∨ (∃ p, x = .bl p ∧ y = -(if p = true then (1 : Int) else 0)) ∧ Q (.int y) H) := by
  intro pins s σ H x v Q I rx h
  obtain ⟨y, ⟨⟨i, rfl, rfl⟩, q⟩ | ⟨⟨p, rfl, rfl⟩, q⟩⟩ := h
  · obtain ⟨t, rfl⟩ := rx
    exact neg_int ⟨.int _, H, I.tok _, ⟨_, rfl⟩, q⟩
  · cases rx
    exact neg_bool ⟨.int _, H, I.tok _, ⟨_, rfl⟩, q⟩

/-! comparisons -/
def rCo (g : GW) (o : CmpOp) : R2 := fun x y H Q => ∃ W m σ S s t b, SRep g m H S ∧ Rep g m H s x ∧ Rep g m H t y ∧ cop S o s t = some b ∧ GoodE g W m σ H Q (.ok (.bl b) S)

theorem eq_reads {pins : List (Addr × Obj)} {σ : L2.St} {s : Shared} {m : List Addr} {H : Hp} (hK : X.K = g.K) (I : Inv X pins σ H s) {t : T} {v : V} {u : Value} {d : PyData} (r : RepD g m H t v) (rv : RelV v u) (e : toD t = some d) :
    ∃ as, Reads s.heap u d as := Dp.reads I d v u (by rw [hK]; exact rep_dp t r e) rv

theorem op_c (hK : X.K = g.K) (hu : X.A.units + 64 < cLine) (o : CmpOp) : OpR X (compareOp o) (rCo g o) := by
  intro pins s σ H x y v u Q I rx ry h
  obtain ⟨W, m, σ', S, a, b, k, sr, ra, rb, e, G⟩ := h
  have q : Q (.bl k) H := fin_val G sr Rep.bl_
  have qe : EP X pins σ Q (.bool k) s := ⟨.bl k, H, I, rfl, q⟩
  have eqs : ∀ {k' : Bool}, eqT (drf S a) (drf S b) = some k' → ∃ da db as bs, Reads s.heap v da as ∧ Reads s.heap u db bs ∧ da.plain = true ∧ db.plain = true ∧ X.A.units + min da.depth db.depth < cLine ∧ PyData.eqv da db = k' := by
    intro k' e
    unfold eqT at e
    split at e
    · rename_i da e1
      split at e
      · rename_i db e2
        split at e
        · rename_i hs
          obtain ⟨as, r1⟩ := eq_reads hK I (RepD.drf sr ra) rx e1
          obtain ⟨bs, r2⟩ := eq_reads hK I (RepD.drf sr rb) ry e2
          refine ⟨da, db, as, bs, r1, r2, toD_plain _ e1, toD_plain _ e2, ?_, by simpa using e⟩
          have : min da.depth db.depth ≤ 60 := by simpa [shal] using hs
          omega
        · cases e
      · cases e
    · cases e
  have ins : ∀ {k' : Bool} {l : List T}, inT (drf S a) l = some k' → ∃ d ds as, Reads s.heap v d as ∧ toDs l = some ds ∧ d.plain = true ∧ PyData.plainAll ds = true ∧ X.A.units + 1 + min (PyData.depthAll ds) d.depth < cLine ∧ (ds.any fun z => PyData.eqv z d) = k' := by
    intro k' l e
    unfold inT at e
    split at e
    · rename_i d e1
      split at e
      · rename_i ds e2
        split at e
        · rename_i hs
          obtain ⟨as, r1⟩ := eq_reads hK I (RepD.drf sr ra) rx e1
          refine ⟨d, ds, as, r1, e2, toD_plain _ e1, toDs_plain _ e2, ?_, by simpa using e⟩
          have : d.depth ≤ 60 := by simpa using hs
          omega
        · cases e
      · cases e
    · cases e
  cases o with
  | Eq =>
    obtain ⟨da, db, as, bs, r1, r2, p1, p2, hd, ev⟩ := eqs e
    exact SeqAt.eq_plain r1 r2 p1 p2 hd (by rw [ev]; exact qe)
  | NotEq =>
    simp only [cop] at e
    split at e
    · rename_i k' e'
      obtain ⟨da, db, as, bs, r1, r2, p1, p2, hd, ev⟩ := eqs e'
      simp only [Option.some.injEq] at e
      exact SeqAt.ne_plain r1 r2 p1 p2 hd (by rw [ev, e]; exact qe)
    · cases e
  | Lt =>
    simp only [cop] at e
    split at e
    · rename_i i j
      cases RepD.int (RepD.of ra); cases RepD.int (RepD.of rb)
      simp only [Option.some.injEq] at e
      exact op_lt pins s σ H _ _ v u Q I rx ry ⟨i, j, rfl, rfl, by show Q (.bl (decide (i < j))) H; rw [e]; exact q⟩
    · cases e
  | LtE =>
    simp only [cop] at e
    split at e
    · rename_i i j
      cases RepD.int (RepD.of ra); cases RepD.int (RepD.of rb)
      simp only [Option.some.injEq] at e
      exact op_le pins s σ H _ _ v u Q I rx ry ⟨i, j, rfl, rfl, by show Q (.bl (decide (i ≤ j))) H; rw [e]; exact q⟩
    · cases e
  | Gt =>
    simp only [cop] at e
    split at e
    · rename_i i j
      cases RepD.int (RepD.of ra); cases RepD.int (RepD.of rb)
      simp only [Option.some.injEq] at e
      exact op_gt pins s σ H _ _ v u Q I rx ry ⟨i, j, rfl, rfl, by show Q (.bl (decide (j < i))) H; rw [e]; exact q⟩
    · cases e
  | GtE =>
    simp only [cop] at e
    split at e
    · rename_i i j
      cases RepD.int (RepD.of ra); cases RepD.int (RepD.of rb)
      simp only [Option.some.injEq] at e
      exact op_ge pins s σ H _ _ v u Q I rx ry ⟨i, j, rfl, rfl, by show Q (.bl (decide (j ≤ i))) H; rw [e]; exact q⟩
    · cases e
  | Is =>
    simp only [cop] at e
    split at e
    · have hy : y = .non := by simpa [Rep] using rb
      refine op_isN pins s σ H _ _ v u Q I rx ry ⟨hy, ?_⟩
      have : decide (x = V.non) = k := by
        rw [non_iff ra]
        cases a <;> simp at e ⊢ <;> exact e
      rw [this]; exact q
    · cases e
  | IsNot =>
    simp only [cop] at e
    split at e
    · have hy : y = .non := by simpa [Rep] using rb
      refine op_notN pins s σ H _ _ v u Q I rx ry ⟨hy, ?_⟩
      have : (!decide (x = V.non)) = k := by
        rw [non_iff ra]
        cases a <;> simp at e ⊢ <;> exact e
      rw [this]; exact q
    · cases e
  | In =>
    simp only [cop] at e
    have rb' := RepD.drf sr rb
    split at e
    · rename_i l hl
      rw [hl] at rb'
      obtain ⟨d, ds, as, r1, e2, p1, p2, hd, ev⟩ := ins e
      have e3 : toD (T.tup l) = some (.tuple ds) := by simp [toD, e2]
      obtain ⟨bs, r2⟩ := eq_reads hK I rb' ry e3
      exact SeqAt.in_tuple_data r2 r1 p2 p1 hd (by rw [ev]; exact qe)
    · rename_i l hl
      rw [hl] at rb'
      obtain ⟨d, ds, as, r1, e2, p1, p2, hd, ev⟩ := ins e
      have e3 : toD (T.lst l) = some (.list ds) := by simp [toD, e2]
      obtain ⟨bs, r2⟩ := eq_reads hK I rb' ry e3
      exact SeqAt.in_list_data r2 r1 p2 p1 hd (by rw [ev]; exact qe)
    · rename_i z hl
      rw [hl] at rb'
      split at e
      · rename_i z'
        cases RepD.str (RepD.of ra)
        cases RepD.str rb'
        simp only [Option.some.injEq] at e
        exact op_in_str pins s σ H _ _ v u Q I rx ry ⟨z', z, rfl, rfl, by rw [e]; exact q⟩
      · cases e
    · cases e
  | NotIn =>
    simp only [cop] at e
    have rb' := RepD.drf sr rb
    split at e
    · rename_i l hl
      rw [hl] at rb'
      split at e
      · rename_i k' e'
        obtain ⟨d, ds, as, r1, e2, p1, p2, hd, ev⟩ := ins e'
        have e3 : toD (T.tup l) = some (.tuple ds) := by simp [toD, e2]
        obtain ⟨bs, r2⟩ := eq_reads hK I rb' ry e3
        simp only [Option.some.injEq] at e
        exact SeqAt.notIn_tuple_data r2 r1 p2 p1 hd (by rw [ev, e]; exact qe)
      · cases e
    · rename_i l hl
      rw [hl] at rb'
      split at e
      · rename_i k' e'
        obtain ⟨d, ds, as, r1, e2, p1, p2, hd, ev⟩ := ins e'
        have e3 : toD (T.lst l) = some (.list ds) := by simp [toD, e2]
        obtain ⟨bs, r2⟩ := eq_reads hK I rb' ry e3
        simp only [Option.some.injEq] at e
        exact SeqAt.notIn_list_data r2 r1 p2 p1 hd (by rw [ev, e]; exact qe)
      · cases e
    · rename_i z hl
      rw [hl] at rb'
      split at e
      · rename_i z'
        cases RepD.str (RepD.of ra)
        cases RepD.str rb'
        simp only [Option.some.injEq] at e
        exact op_notIn_str pins s σ H _ _ v u Q I rx ry ⟨z', z, rfl, rfl, by rw [e]; exact q⟩
      · cases e
    · cases e

/-! subscripts -/
def rIxT (g : GW) : R2 := fun x y H Q => ∃ W m σ S s t u, SRep g m H S ∧ Rep g m H s x ∧ Rep g m H t y ∧ ixT S s t = some u ∧ GoodE g W m σ H Q (.ok u S)

theorem atI_rep {m : List Addr} {H : Hp} {l : List T} {vs : List V} {k : Int} {u : T} (r : RepL g m H l vs) (e : atI l k = some u) : ∃ v, atI vs k = some v ∧ Rep g m H u v := by
  unfold atI at e ⊢
  rw [← r.length]
  cases h : ixN l.length k with
  | none => rw [h] at e; cases e
  | some j =>
    rw [h] at e
    exact r.get e

theorem ix_t (hK : X.K = g.K) : IxR X (rIxT g) := by
  intro value slice pins s σ H x y v u Q I rx ry h hs
  obtain ⟨W, m, σ', S, a, b, r, sr, ra, rb, e, G⟩ := h
  have ra' := RepD.drf sr ra
  unfold ixT at e
  split at e
  · rename_i l k hl
    rw [hl] at ra'
    obtain ⟨p, vs, rfl, q1, l1⟩ := RepD.tup ra'
    cases RepD.int (RepD.of rb)
    obtain ⟨w, h1, h2⟩ := atI_rep l1 e
    rw [← hK] at q1
    refine ix_tup value slice pins s σ H _ _ v u Q I rx ry ⟨p, vs, k, w, rfl, rfl, q1, h1, fin_val G sr h2⟩ hs
  · rename_i l k hl
    rw [hl] at ra'
    obtain ⟨p, vs, rfl, q1, l1⟩ := RepD.lst ra'
    cases RepD.int (RepD.of rb)
    obtain ⟨w, h1, h2⟩ := atI_rep l1 e
    refine ix_list value slice pins s σ H _ _ v u Q I rx ry ⟨p, vs, k, w, rfl, rfl, SqL.of q1, h1, fin_val G sr h2⟩ hs
  · rename_i l k hl
    rw [hl] at ra'
    obtain ⟨p, rfl, q1⟩ := RepD.scr ra'
    cases RepD.int (RepD.of rb)
    split at e
    · rename_i z hz
      simp only [Option.some.injEq] at e; subst e
      rw [← hK] at q1
      refine ix_list value slice pins s σ H _ _ v u Q I rx ry ⟨p, _, k, .int z, rfl, rfl, q1, ?_, fin_val G sr Rep.int_⟩ hs
      unfold atI at hz ⊢
      rw [List.length_map]
      cases h : ixN l.length k with
      | none => rw [h] at hz; cases hz
      | some j =>
        rw [h] at hz
        have hz' : l[j]? = some z := hz
        show (l.map V.int)[j]? = some (.int z)
        simp [hz']
    · cases e
  · rename_i z k hl
    rw [hl] at ra'
    cases RepD.str ra'
    cases RepD.int (RepD.of rb)
    split at e
    · rename_i hz
      split at e
      · rename_i c hc
        simp only [Option.some.injEq] at e; subst e
        rw [line_eq] at hz
        refine ix_str value slice pins s σ H _ _ v u Q I rx ry ⟨z, k, c, rfl, rfl, hz, hc, fin_val G sr Rep.str_⟩ hs
      · cases e
    · cases e
  · cases e

/-! slices -/
theorem cutL_rep {m : List Addr} {H : Hp} {l : List T} {vs : List V} {lo hi : Option Int} (r : RepL g m H l vs) : RepL g m H (cutL l lo hi) (cutV vs lo hi) := by
  unfold cutL cutV
  rw [r.length]
  exact (r.drop _).take _
def rSlTT (g : GW) : V → Option Int → Option Int → Hp → VK → Prop := fun x lo hi H Q => ∃ W m σ S bx s u, SRep g m H S ∧ Rep g m H s x ∧ slT S s lo hi = some u ∧ GoodE g W m σ H Q (newL bx u S)
theorem sl_t (hK : X.K = g.K) : SlR X (rSlTT g) := by
  intro pins s σ H x v vl vu lo hi sl Q I rx hs pl pu h
  obtain ⟨W, m, σ', S, bx, a, r, sr, ra, e, G⟩ := h
  have ra' := RepD.drf sr ra
  unfold slT at e
  split at e
  · rename_i l hl
    rw [hl] at ra'
    obtain ⟨p, vs, ex, q1, l1⟩ := RepD.tup ra'
    simp only [Option.some.injEq] at e; subst e
    have q1' := q1
    rw [← hK] at q1
    refine sl_tupA pins s σ H x v vl vu lo hi sl Q I rx hs pl pu ⟨p, vs, ex, q1, fun hw => ?_, fun _ => fin_tup G sr (cutL_rep l1)⟩
    have hc : cutL l lo hi = l := by
      unfold cutL
      rw [l1.length, hw.1, hw.2, List.drop_zero, ← l1.length, Nat.sub_zero, List.take_length]
    rw [hc] at G
    subst ex
    exact fin_val (t := .tup l) G sr ra'
  · rename_i l hl
    rw [hl] at ra'
    obtain ⟨p, vs, ex, q1, l1⟩ := RepD.lst ra'
    simp only [Option.some.injEq] at e; subst e
    exact sl_list pins s σ H x v vl vu lo hi sl Q I rx hs pl pu ⟨p, vs, ex, SqL.of q1, fin_lst G sr (cutL_rep l1)⟩
  · rename_i z hl
    rw [hl] at ra'
    cases RepD.str ra'
    split at e
    · rename_i hz
      simp only [Option.some.injEq] at e; subst e
      rw [line_eq] at hz
      exact sl_str pins s σ H _ v vl vu lo hi sl Q I rx hs pl pu ⟨z, rfl, hz, fin_val (t := .str _) G sr Rep.str_⟩
    · cases e
  · cases e

/-! .. whatever lists are under way -/
def rBx (g : GW) (o : Operator) : R2 := fun x y H Q => ∃ fb, rB (g.w fb) o x y H Q
theorem op_bx (hK : X.K = g.K) (o : Operator) : OpR X (binaryOp o) (rBx g o) := fun pins s σ H x y v u Q I rx ry ⟨fb, h⟩ => op_b (g := g.w fb) hK o pins s σ H x y v u Q I rx ry h
def rCx (g : GW) (o : CmpOp) : R2 := fun x y H Q => ∃ fb, rCo (g.w fb) o x y H Q
theorem op_cx (hK : X.K = g.K) (hu : X.A.units + 64 < cLine) (o : CmpOp) : OpR X (compareOp o) (rCx g o) := fun pins s σ H x y v u Q I rx ry ⟨fb, h⟩ => op_c (g := g.w fb) hK hu o pins s σ H x y v u Q I rx ry h
def rIx_ (g : GW) : R2 := fun x y H Q => ∃ fb, rIxT (g.w fb) x y H Q
theorem ix_x (hK : X.K = g.K) : IxR X (rIx_ g) := fun a b pins s σ H x y v u Q I rx ry ⟨fb, h⟩ hs => ix_t (g := g.w fb) hK a b pins s σ H x y v u Q I rx ry h hs
def rSlx (g : GW) : V → Option Int → Option Int → Hp → VK → Prop := fun x lo hi H Q => ∃ fb, rSlTT (g.w fb) x lo hi H Q
theorem sl_x (hK : X.K = g.K) : SlR X (rSlx g) := fun pins s σ H x v vl vu lo hi sl Q I rx hs pl pu ⟨fb, h⟩ => sl_t (g := g.w fb) hK pins s σ H x v vl vu lo hi sl Q I rx hs pl pu h
end
end Fw

namespace Fw
open PySem L2 PyProof.Rows

theorem maxI_spec : ∀ (r : List Int) (a : Int), maxI a r ∈ a :: r ∧ ∀ y ∈ a :: r, y ≤ maxI a r
  | [], a => by simp [maxI]
  | b :: r, a => by
    obtain ⟨h1, h2⟩ := maxI_spec r (if b > a then b else a)
    show maxI (if b > a then b else a) r ∈ a :: b :: r ∧ ∀ y ∈ a :: b :: r, y ≤ maxI (if b > a then b else a) r
    have h3 := h2 _ List.mem_cons_self
    generalize maxI (if b > a then b else a) r = M at *
    refine ⟨?_, fun y hy => ?_⟩
    · rcases List.mem_cons.mp h1 with q | q
      · rw [q]; split <;> simp
      · exact List.mem_cons_of_mem _ (List.mem_cons_of_mem _ q)
    · rcases List.mem_cons.mp hy with q | q
      · subst q; split at h3 <;> omega
      · rcases List.mem_cons.mp q with q | q
        · subst q; split at h3 <;> omega
        · exact h2 y (List.mem_cons_of_mem _ q)
theorem minI_spec : ∀ (r : List Int) (a : Int), minI a r ∈ a :: r ∧ ∀ y ∈ a :: r, minI a r ≤ y
  | [], a => by simp [minI]
  | b :: r, a => by
    obtain ⟨h1, h2⟩ := minI_spec r (if b < a then b else a)
    show minI (if b < a then b else a) r ∈ a :: b :: r ∧ ∀ y ∈ a :: b :: r, minI (if b < a then b else a) r ≤ y
    have h3 := h2 _ List.mem_cons_self
    generalize minI (if b < a then b else a) r = M at *
    refine ⟨?_, fun y hy => ?_⟩
    · rcases List.mem_cons.mp h1 with q | q
      · rw [q]; split <;> simp
      · exact List.mem_cons_of_mem _ (List.mem_cons_of_mem _ q)
    · rcases List.mem_cons.mp hy with q | q
      · subst q; split at h3 <;> omega
      · rcases List.mem_cons.mp q with q | q
        · subst q; split at h3 <;> omega
        · exact h2 y (List.mem_cons_of_mem _ q)

section
variable {g : GW} {m : List Addr} {H : Hp}
theorem rep_ints : ∀ {l : List T} {ns : List Int} {vs : List V}, RepL g m H l vs → intsOf l = some ns → vs = ns.map V.int
  | [], ns, vs, r, e => by simp only [RepL] at r; subst r; simp [intsOf] at e; subst e; rfl
  | .int b :: l, ns, vs, r, e => by
    simp only [RepL, Rep] at r
    obtain ⟨v, w, rfl, rfl, h⟩ := r
    simp only [intsOf] at e
    split at e
    · rename_i k hk
      simp only [Option.some.injEq] at e; subst e
      rw [rep_ints h hk]; rfl
    · cases e
  | .non :: l, ns, vs, r, e => by simp [intsOf] at e
  | .bl _ :: l, ns, vs, r, e => by simp [intsOf] at e
  | .str _ :: l, ns, vs, r, e => by simp [intsOf] at e
  | .tup _ :: l, ns, vs, r, e => by simp [intsOf] at e
  | .lst _ :: l, ns, vs, r, e => by simp [intsOf] at e
  | .box _ :: l, ns, vs, r, e => by simp [intsOf] at e
  | .fn _ :: l, ns, vs, r, e => by simp [intsOf] at e
  | .scr _ :: l, ns, vs, r, e => by simp [intsOf] at e
theorem rep_bools : ∀ {l : List T} {ns : List Bool} {vs : List V}, RepL g m H l vs → boolsOf l = some ns → vs = ns.map V.bl
  | [], ns, vs, r, e => by simp only [RepL] at r; subst r; simp [boolsOf] at e; subst e; rfl
  | .bl b :: l, ns, vs, r, e => by
    simp only [RepL, Rep] at r
    obtain ⟨v, w, rfl, rfl, h⟩ := r
    simp only [boolsOf] at e
    split at e
    · rename_i k hk
      simp only [Option.some.injEq] at e; subst e
      rw [rep_bools h hk]; rfl
    · cases e
  | .non :: l, ns, vs, r, e => by simp [boolsOf] at e
  | .int _ :: l, ns, vs, r, e => by simp [boolsOf] at e
  | .str _ :: l, ns, vs, r, e => by simp [boolsOf] at e
  | .tup _ :: l, ns, vs, r, e => by simp [boolsOf] at e
  | .lst _ :: l, ns, vs, r, e => by simp [boolsOf] at e
  | .box _ :: l, ns, vs, r, e => by simp [boolsOf] at e
  | .fn _ :: l, ns, vs, r, e => by simp [boolsOf] at e
  | .scr _ :: l, ns, vs, r, e => by simp [boolsOf] at e
theorem rep_strs : ∀ {l : List T} {ns : List Str} {vs : List V}, RepL g m H l vs → strsOf l = some ns → vs = ns.map V.str
  | [], ns, vs, r, e => by simp only [RepL] at r; subst r; simp [strsOf] at e; subst e; rfl
  | .str b :: l, ns, vs, r, e => by
    simp only [RepL, Rep] at r
    obtain ⟨v, w, rfl, rfl, h⟩ := r
    simp only [strsOf] at e
    split at e
    · rename_i k hk
      simp only [Option.some.injEq] at e; subst e
      rw [rep_strs h hk]; rfl
    · cases e
  | .non :: l, ns, vs, r, e => by simp [strsOf] at e
  | .int _ :: l, ns, vs, r, e => by simp [strsOf] at e
  | .bl _ :: l, ns, vs, r, e => by simp [strsOf] at e
  | .tup _ :: l, ns, vs, r, e => by simp [strsOf] at e
  | .lst _ :: l, ns, vs, r, e => by simp [strsOf] at e
  | .box _ :: l, ns, vs, r, e => by simp [strsOf] at e
  | .fn _ :: l, ns, vs, r, e => by simp [strsOf] at e
  | .scr _ :: l, ns, vs, r, e => by simp [strsOf] at e
theorem rep_of_strs : ∀ (l : List Str), RepL g m H (l.map T.str) (l.map V.str)
  | [] => RepL.nil
  | s :: l => RepL.cons Rep.str_ (rep_of_strs l)
theorem RepL.one {t : T} {vs : List V} (h : RepL g m H [t] vs) : ∃ v, vs = [v] ∧ Rep g m H t v := by
  simp only [RepL] at h
  obtain ⟨v, r, rfl, h1, rfl⟩ := h
  exact ⟨v, rfl, h1⟩
theorem RepL.two {t u : T} {vs : List V} (h : RepL g m H [t, u] vs) : ∃ v w, vs = [v, w] ∧ Rep g m H t v ∧ Rep g m H u w := by
  simp only [RepL] at h
  obtain ⟨v, r, rfl, h1, w, r', rfl, h2, rfl⟩ := h
  exact ⟨v, w, rfl, h1, h2⟩
end

def Bl.val : Bl → Value
  | .len => .builtin "len" | .abs => .builtin "abs" | .max => .builtin "max" | .min => .builtin "min" | .all => .builtin "all"
  | .int => .type "int" | .bool => .type "bool" | .str => .type "str" | .tuple => .type "tuple" | .list => .type "list"

def rBl (g : GW) (b : Bl) : List V → Hp → VK → Prop := fun xs H Q => ∃ W m σ S bx ts u, SRep g m H S ∧ RepL g m H ts xs ∧ bltT S b ts = some u ∧ GoodE g W m σ H Q (newL bx u S)

section
variable {X : Cx} {g : GW}
theorem call_blt (hK : X.K = g.K) (hc : X.calm = true) (b : Bl) : CallR X b.val (rBl g b) := by
  intro pins s σ H xs us Q I r h
  obtain ⟨W, m, σ', S, bx, ts, u, sr, rp, e, G⟩ := h
  unfold bltT at e
  split at e
  · -- len
    rename_i x
    obtain ⟨v, rfl, rv⟩ := rp.one
    have rd := RepD.drf sr rv
    split at e
    · rename_i l hl
      rw [hl] at rd
      obtain ⟨p, vs, rfl, q1, l1⟩ := RepD.tup rd
      simp only [Option.some.injEq] at e; subst e
      rw [← hK] at q1
      exact call_len_seq pins s σ H _ us Q I r ⟨p, vs, rfl, .inr q1, by rw [← l1.length]; exact fin_val (t := .int _) G sr Rep.int_⟩
    · rename_i l hl
      rw [hl] at rd
      obtain ⟨p, vs, rfl, q1, l1⟩ := RepD.lst rd
      simp only [Option.some.injEq] at e; subst e
      exact call_len_seq pins s σ H _ us Q I r ⟨p, vs, rfl, .inl (SqL.of q1), by rw [← l1.length]; exact fin_val (t := .int _) G sr Rep.int_⟩
    · rename_i l hl
      rw [hl] at rd
      obtain ⟨p, rfl, q1⟩ := RepD.scr rd
      simp only [Option.some.injEq] at e; subst e
      rw [← hK] at q1
      exact call_len_seq pins s σ H _ us Q I r ⟨p, _, rfl, .inl q1, by rw [List.length_map]; exact fin_val (t := .int _) G sr Rep.int_⟩
    · rename_i z hl
      rw [hl] at rd
      cases RepD.str rd
      split at e
      · rename_i hz
        simp only [Option.some.injEq] at e; subst e
        rw [line_eq] at hz
        exact call_len_str pins s σ H _ us Q I r ⟨z, rfl, hz, fin_val (t := .int _) G sr Rep.int_⟩
      · cases e
    · cases e
  · -- abs
    obtain ⟨v, rfl, rv⟩ := rp.one
    cases RepD.int (RepD.of rv)
    simp only [Option.some.injEq] at e; subst e
    exact call_abs pins s σ H _ us Q I r ⟨_, rfl, fin_val (t := .int _) G sr Rep.int_⟩
  · obtain ⟨v, rfl, rv⟩ := rp.one
    cases RepD.int (RepD.of rv)
    simp only [Option.some.injEq] at e; subst e
    exact call_int1 pins s σ H _ us Q I r (.inl ⟨_, rfl, fin_val (t := .int _) G sr Rep.int_⟩)
  · obtain ⟨v, rfl, rv⟩ := rp.one
    cases RepD.bl (RepD.of rv)
    simp only [Option.some.injEq] at e; subst e
    exact call_int1 pins s σ H _ us Q I r (.inr ⟨_, rfl, fin_val (t := .int _) G sr Rep.int_⟩)
  · -- int of a text
    rename_i a
    obtain ⟨v, rfl, rv⟩ := rp.one
    cases RepD.str (RepD.of rv)
    split at e
    · rename_i hz
      split at e
      · rename_i n hn
        simp only [Option.some.injEq] at e; subst e
        exact call_int_str pins s σ H _ us Q I r ⟨a, n, rfl, hn, hz, fin_val (t := .int _) G sr Rep.int_⟩
      · cases e
    · cases e
  · obtain ⟨v, rfl, rv⟩ := rp.one
    cases RepD.int (RepD.of rv)
    simp only [Option.some.injEq] at e; subst e
    exact call_bool1 pins s σ H _ us Q I r (.inl ⟨_, rfl, fin_val (t := .bl _) G sr Rep.bl_⟩)
  · obtain ⟨v, rfl, rv⟩ := rp.one
    cases RepD.bl (RepD.of rv)
    simp only [Option.some.injEq] at e; subst e
    exact call_bool1 pins s σ H _ us Q I r (.inr ⟨_, rfl, fin_val (t := .bl _) G sr Rep.bl_⟩)
  · -- str of an int
    rename_i i
    obtain ⟨v, rfl, rv⟩ := rp.one
    cases RepD.int (RepD.of rv)
    split at e
    · rename_i hz
      simp only [Option.some.injEq] at e; subst e
      exact call_str_int pins s σ H _ us Q I r ⟨_, rfl, hz, fin_val (t := .str _) G sr Rep.str_⟩
    · cases e
  · obtain ⟨v, w, rfl, rv, rw'⟩ := rp.two
    cases RepD.int (RepD.of rv)
    cases RepD.int (RepD.of rw')
    simp only [Option.some.injEq] at e; subst e
    exact call_max2 hc pins s σ H _ us Q I r ⟨_, _, rfl, fin_val (t := .int _) G sr Rep.int_⟩
  · obtain ⟨v, w, rfl, rv, rw'⟩ := rp.two
    cases RepD.int (RepD.of rv)
    cases RepD.int (RepD.of rw')
    simp only [Option.some.injEq] at e; subst e
    exact call_min2 hc pins s σ H _ us Q I r ⟨_, _, rfl, fin_val (t := .int _) G sr Rep.int_⟩
  · -- max of a list
    obtain ⟨v, rfl, rv⟩ := rp.one
    have rd := RepD.drf sr rv
    split at e
    · rename_i l hl
      rw [hl] at rd
      obtain ⟨p, vs, rfl, q1, l1⟩ := RepD.lst rd
      split at e
      · rename_i a r' hi
        simp only [Option.some.injEq] at e; subst e
        have := rep_ints l1 hi
        subst this
        refine cr_max hc pins s σ H _ us Q I r ⟨p, a :: r', rfl, SqL.of q1, by simp, fun M h1 h2 => ?_⟩
        obtain ⟨h3, h4⟩ := maxI_spec r' a
        have : M = maxI a r' := by
          have := h4 M h1
          have := h2 _ h3
          omega
        rw [this]
        exact fin_val (t := .int _) G sr Rep.int_
      · cases e
    · cases e
  · obtain ⟨v, rfl, rv⟩ := rp.one
    have rd := RepD.drf sr rv
    split at e
    · rename_i l hl
      rw [hl] at rd
      obtain ⟨p, vs, rfl, q1, l1⟩ := RepD.lst rd
      split at e
      · rename_i a r' hi
        simp only [Option.some.injEq] at e; subst e
        have := rep_ints l1 hi
        subst this
        refine cr_min hc pins s σ H _ us Q I r ⟨p, a :: r', rfl, SqL.of q1, by simp, fun M h1 h2 => ?_⟩
        obtain ⟨h3, h4⟩ := minI_spec r' a
        have : M = minI a r' := by
          have := h4 M h1
          have := h2 _ h3
          omega
        rw [this]
        exact fin_val (t := .int _) G sr Rep.int_
      · cases e
    · cases e
  · -- all
    obtain ⟨v, rfl, rv⟩ := rp.one
    have rd := RepD.drf sr rv
    split at e
    · rename_i l hl
      rw [hl] at rd
      obtain ⟨p, vs, rfl, q1, l1⟩ := RepD.lst rd
      split at e
      · rename_i bs hi
        simp only [Option.some.injEq] at e; subst e
        have := rep_bools l1 hi
        subst this
        exact cr_all hc pins s σ H _ us Q I r ⟨p, bs, rfl, SqL.of q1, fin_val (t := .bl _) G sr Rep.bl_⟩
      · cases e
    · cases e
  · -- tuple
    obtain ⟨v, rfl, rv⟩ := rp.one
    have rd := RepD.drf sr rv
    split at e
    · rename_i l hl
      rw [hl] at rd
      obtain ⟨p, vs, rfl, q1, l1⟩ := RepD.tup rd
      simp only [Option.some.injEq] at e; subst e
      rw [← hK] at q1
      exact call_tuple_of pins s σ H _ us Q I r ⟨p, vs, rfl, .inr ⟨q1, fin_val (t := .tup _) G sr rd⟩⟩
    · rename_i l hl
      rw [hl] at rd
      obtain ⟨p, vs, rfl, q1, l1⟩ := RepD.lst rd
      simp only [Option.some.injEq] at e; subst e
      exact call_tuple_of pins s σ H _ us Q I r ⟨p, vs, rfl, .inl ⟨SqL.of q1, fin_tup G sr l1⟩⟩
    · cases e
  · -- list
    obtain ⟨v, rfl, rv⟩ := rp.one
    have rd := RepD.drf sr rv
    split at e
    · rename_i l hl
      rw [hl] at rd
      obtain ⟨p, vs, rfl, q1, l1⟩ := RepD.tup rd
      simp only [Option.some.injEq] at e; subst e
      rw [← hK] at q1
      exact call_list_of pins s σ H _ us Q I r ⟨p, vs, rfl, .inr q1, fin_lst G sr l1⟩
    · rename_i l hl
      rw [hl] at rd
      obtain ⟨p, vs, rfl, q1, l1⟩ := RepD.lst rd
      simp only [Option.some.injEq] at e; subst e
      exact call_list_of pins s σ H _ us Q I r ⟨p, vs, rfl, .inl (SqL.of q1), fin_lst G sr l1⟩
    · cases e
  · cases e

def rBlx (g : GW) (b : Bl) : List V → Hp → VK → Prop := fun xs H Q => ∃ fb, rBl (g.w fb) b xs H Q
theorem call_bltx (hK : X.K = g.K) (hc : X.calm = true) (b : Bl) : CallR X b.val (rBlx g b) := fun pins s σ H xs us Q I r ⟨fb, h⟩ => call_blt (g := g.w fb) hK hc b pins s σ H xs us Q I r h

/-! isinstance with a built-in type -/
theorem ty_of {m : List Addr} {H : Hp} {S : Sto} {t : T} {v : V} {a : String} (hK : X.K = g.K) (sr : SRep g m H S) (r : Rep g m H t v) (e : tyT S t = some a) : TyX X.K H v (.type a) := by
  have tupK : ∀ {p : Addr} {vs : List V}, SqT g.K H p vs → TyX X.K H (.ref p) (.type "tuple") := fun {p vs} q => by
    rcases q with (q | ⟨o, q⟩) | ⟨o, its, n, h1, h2, _⟩
    · exact .base (.tup q)
    · exact .fTuple q
    · exact .kTuple (by rw [hK]; exact h1) h2
  cases t with
  | non => simp only [Rep] at r; subst r; simp [tyT] at e; subst e; exact .base .non
  | bl b => simp only [Rep] at r; subst r; simp [tyT] at e; subst e; exact .base (.bl b)
  | int b => simp only [Rep] at r; subst r; simp [tyT] at e; subst e; exact .base (.int b)
  | str b => simp only [Rep] at r; subst r; simp [tyT] at e; subst e; exact .base (.str b)
  | tup l => obtain ⟨p, vs, rfl, q1, l1⟩ := RepD.tup (RepD.of r); simp [tyT] at e; subst e; exact tupK q1
  | lst l => obtain ⟨p, vs, rfl, q1, l1⟩ := RepD.lst (RepD.of r); simp [tyT] at e; subst e; exact .base (.lst q1)
  | box n =>
    simp only [Rep] at r
    obtain ⟨p, h1, rfl⟩ := r
    simp only [tyT] at e
    split at e
    · rename_i l hl
      obtain ⟨vs, q1, _⟩ := sr.at_ n _ p hl h1
      simp only [Option.some.injEq] at e; subst e
      exact .base (.lst q1)
    · cases e
  | fn f => simp [tyT] at e
  | scr f => simp [tyT] at e

theorem tys {S : Sto} {t : T} {a : String} (e : tyT S t = some a) : a ∈ ["NoneType", "bool", "int", "str", "tuple", "list"] := by
  unfold tyT at e
  split at e <;> (try (split at e)) <;> simp at e <;> subst e <;> simp
end
end Fw

namespace Fw
open PySem L2 PyProof.Rows

/-! ### the wish of a def, and the context of its body -/
def GoodC (g : GW) (m : List Addr) (H : Hp) (Q : VK) (E : XK) : Out → Prop
  | .ok t S' => ∀ v m' H', Ext m H m' H' → SRep g m' H' S' → Rep g m' H' t v → Q v H'
  | .ex c p S' => ∀ cls d m' H', Ext m H m' H' → SRep g m' H' S' → XRep g H' c p cls d → E cls d H'
def spF (g : GW) (call : Nat → List T → Sto → Res) (f np : Nat) : Sp := fun vs H Q E => vs.length = np ∧ ∃ fb m S ts o, RepL (g.w fb) m H ts vs ∧ SRep (g.w fb) m H S ∧ call f ts S = some o ∧ GoodC (g.w fb) m H Q E o

structure XOk (G : Gm) (g : GW) (E : EV) (W : WX) (X : Cx) : Prop where
  N : X.N = G.N
  nd : G.N.Nodup
  sc : X.env.scope = G.sc
  K : X.K = g.K
  calm : X.calm = true
  fn : G.fnT = true → ∀ x, X.fn x = true
  tk : Takes X W
  un : X.A.units + 64 < cLine
  blt : ∀ x, x ∈ G.blt → X.mg x = none
  call : ∀ f x, G.fname f = some x → ∃ k fd ps, FnOk X.prog X.w X.K X.mg X.base (L2.CX X.prog X.w) k (g.fa f) fd ps (spF g E.call f ps.length) ∧ Room k X.A ∧ X.mg x = some (.ref (g.fa f)) ∧ PySem.W.keepIn X.K (.ref (g.fa f)) = true ∧ Binds X.K fd ps [] ∧ ∀ ts S o, E.call f ts S = some o → ts.length = ps.length
  cst : ∀ c x, G.cname c = some x → ∃ u v, X.mg x = some u ∧ L2.RelV v u ∧ ∀ fb m H, Rep (g.w fb) m H (E.cv c) v

def GoodT (g : GW) (W : WX) (m : List Addr) (σ : L2.St) (H : Hp) (Q : Bool → Hp → Prop) : Out → Prop
  | .ok t S' => ∃ b, truthy S' t = some b ∧ ∀ m' H', Ext m H m' H' → SRep g m' H' S' → Q b H'
  | .ex c p S' => ∀ cls d m' H', Ext m H m' H' → SRep g m' H' S' → XRep g H' c p cls d → W cls d σ H'
def tT (g : GW) (W : WX) (f : Rho → Sto → Res) : TT := fun σ H Q => ∃ fb m ρ S o, RS (g.w fb) m σ H ρ S ∧ f ρ S = some o ∧ GoodT (g.w fb) W m σ H Q o
def GoodO (g : GW) (W : WX) (nl : Bool) (m : List Addr) (σ : L2.St) (H : Hp) (Q : Option Int → Hp → Prop) : Out → Prop
  | .ok t S' => ∃ i, part nl t = some i ∧ ∀ m' H', Ext m H m' H' → SRep g m' H' S' → Q i H'
  | .ex c p S' => ∀ cls d m' H', Ext m H m' H' → SRep g m' H' S' → XRep g H' c p cls d → W cls d σ H'
def tO (g : GW) (W : WX) (nl : Bool) (f : Rho → Sto → Res) : TO := fun σ H Q => ∃ fb m ρ S o, RS (g.w fb) m σ H ρ S ∧ f ρ S = some o ∧ GoodO (g.w fb) W nl m σ H Q o

/-- the whole of a test -/
theorem tT_of {g : GW} {W : WX} {f : Rho → Sto → Res} {σ : L2.St} {H : Hp} {Q : Bool → Hp → Prop} (h : tT g W f σ H Q) : tE g W f σ H fun v H1 => ∃ b, TruV g.K v H1 b ∧ Q b H1 := by
  obtain ⟨fb, m, ρ, S, o, rs, e, G⟩ := h
  refine ⟨fb, m, ρ, S, o, rs, e, ?_⟩
  cases o with
  | ok t S' =>
    obtain ⟨b, hb, k⟩ := G
    exact fun v m' H' x sr r => ⟨b, tru_of sr r hb, k m' H' x sr⟩
  | ex c p S' => exact G

/-- the first part of a step, behind which a test stands -/
theorem tT_bnd {g : GW} {fb : List Addr} {W : WX} {f : Rho → Sto → Res} {k : T → Sto → Res} {m : List Addr} {σ : L2.St} {H : Hp} {ρ : Rho} {S : Sto} {o : Out} {Q : VK} {R : Bool → Hp → Prop}
    (h : bnd (f ρ S) k = some o) (rs : RS (g.w fb) m σ H ρ S) (G : GoodE (g.w fb) W m σ H Q o)
    (hk : ∀ t S1 m1 H1, k t S1 = some o → Ext m H m1 H1 → RS (g.w fb) m1 σ H1 ρ S1 → GoodE (g.w fb) W m1 σ H1 Q o → ∃ b, truthy S1 t = some b ∧ R b H1) (hb : ∀ t S1, k t S1 = some o → ∃ b, truthy S1 t = some b) : tT g W f σ H R := by
  cases e : f ρ S with
  | none => rw [e] at h; cases h
  | some r =>
    rw [e] at h
    refine ⟨fb, m, ρ, S, r, rs, e, ?_⟩
    cases r with
    | ok t S1 =>
      obtain ⟨b, eb⟩ := hb t S1 h
      refine ⟨b, eb, fun m1 H1 x sr => ?_⟩
      obtain ⟨b', eb', q⟩ := hk t S1 m1 H1 h x ⟨rs.env.mono x, sr⟩ (G.ext x)
      rw [eb] at eb'
      cases eb'
      exact q
    | ex c p S1 =>
      have : o = .ex c p S1 := (Option.some.inj h).symm
      subst this
      exact G

section
variable {G : Gm} {g : GW} {E : EV} {W : WX} {X : Cx}

/-- a chain of arguments comes to its items -/
theorem tA_of {fb : List Addr} {f : Rho → Sto → Res} {k : List T → Sto → Res} {m : List Addr} {σ : L2.St} {H : Hp} {ρ : Rho} {S : Sto} {o : Out} {Q : VK} {R : List V → Hp → Prop}
    (h : bnd (f ρ S) (fun x S1 => tups x fun l => k l S1) = some o) (rs : RS (g.w fb) m σ H ρ S) (Gd : GoodE (g.w fb) W m σ H Q o)
    (hk : ∀ l S1 vs m1 H1, k l S1 = some o → Ext m H m1 H1 → RS (g.w fb) m1 σ H1 ρ S1 → RepL (g.w fb) m1 H1 l vs → GoodE (g.w fb) W m1 σ H1 Q o → R vs H1) : tA g W f σ H R := by
  cases e : f ρ S with
  | none => rw [e] at h; cases h
  | some r =>
    rw [e] at h
    refine ⟨fb, m, ρ, S, r, rs, e, ?_⟩
    cases r with
    | ok t S1 =>
      cases t with
      | tup l => exact fun vs m1 H1 x sr rp => hk l S1 vs m1 H1 h x ⟨rs.env.mono x, sr⟩ rp (Gd.ext x)
      | _ => cases h
    | ex c p S1 =>
      have : o = .ex c p S1 := (Option.some.inj h).symm
      subst this
      exact Gd

/-! names and constants -/
theorem vName_eq {e : Expr} {x : Str} (h : vName e = some x) : ∃ p, e = .Name x p := by
  cases e <;> simp [vName] at h
  subst h; exact ⟨_, rfl⟩
theorem vConst_eq {e : Expr} {c : Const} (h : vConst e = some c) : ∃ k p, e = .Constant c k p := by
  cases e <;> simp [vConst] at h
  subst h; exact ⟨_, _, rfl⟩
theorem isNm_eq {o : Option Str} {x : Str} (h : isNm o x = true) : o = some x := by
  cases o with
  | none => cases h
  | some y => simp [isNm] at h; rw [h]
theorem glb_gl (xo : XOk G g E W X) {x : Str} (h : glb G x = true) : Gl X x ∧ (x == ("__debug__" : Str)) = false := by
  simp only [glb, isKind, dbg, Bool.and_eq_true, decide_eq_true_eq, Bool.not_eq_true'] at h
  refine ⟨?_, h.2.1⟩
  show X.env.scope.names.lookup x = _
  rw [xo.sc]
  exact h.1

theorem pe_lit (xo : XOk G g E W X) {v : T} {e : Expr} (h : lits G v e = true) : PE X e (tE g W fun _ S => some (.ok v S)) := by
  have fin : ∀ {w : V} {σ : L2.St} {H : Hp} {Q : VK}, (∀ fb m H, Rep (g.w fb) m H v w) → tE g W (fun _ S => some (.ok v S)) σ H Q → Q w H := fun {w σ H Q} r ⟨fb, m, ρ, S, o, rs, e, G⟩ => by
    simp only [Option.some.injEq] at e
    subst e
    exact fin_val G rs.sto (r _ _ _)
  cases v with
  | non =>
    simp only [lits] at h
    split at h
    · rename_i q
      obtain ⟨k, p, rfl⟩ := vConst_eq q
      exact pe_non.of fun σ H Q q => fin (fun _ _ _ => Rep.non_) q
    · cases h
  | bl b =>
    simp only [lits] at h
    split at h
    · rename_i c q
      obtain ⟨k, p, rfl⟩ := vConst_eq q
      have : b = c := by simpa using h
      subst this
      exact pe_bl.of fun σ H Q q => fin (fun _ _ _ => Rep.bl_) q
    · cases h
  | int b =>
    simp only [lits] at h
    split at h
    · rename_i c q
      obtain ⟨k, p, rfl⟩ := vConst_eq q
      have : b = c := by simpa using h
      subst this
      exact pe_int.of fun σ H Q q => fin (fun _ _ _ => Rep.int_) q
    · cases h
  | str b =>
    simp only [lits] at h
    split at h
    · rename_i c q
      obtain ⟨k, p, rfl⟩ := vConst_eq q
      have : b = c := by simpa using h
      subst this
      exact pe_str.of fun σ H Q q => fin (fun _ _ _ => Rep.str_) q
    · cases h
  | fn f =>
    simp only [lits] at h
    split at h
    · rename_i x q
      obtain ⟨p, rfl⟩ := vName_eq q
      simp only [Bool.and_eq_true] at h
      obtain ⟨gl, db⟩ := glb_gl xo h.2
      obtain ⟨k, fd, ps, _, _, hm, _⟩ := xo.call f x (isNm_eq h.1)
      exact (pe_glob (v := .ref (g.fa f)) gl hm rfl db).of fun σ H Q q => fin (fun _ _ _ => by simp [Rep, GW.w]) q
    · cases h
  | _ => cases h

theorem pe_v (xo : XOk G g E W X) {i : Nat} {e : Expr} (h : chkE G (.var i) e = true) : PE X e (tE g W (evE E (.var i))) := by
  simp only [chkE] at h
  split at h
  · rename_i x q
    obtain ⟨p, rfl⟩ := vName_eq q
    simp only [Bool.and_eq_true, decide_eq_true_eq, visB, isKind, Bool.or_eq_true, dbg, Bool.not_eq_true'] at h
    obtain ⟨⟨h1, h2⟩, h3, h4⟩ := h
    rw [← xo.sc] at h2
    rw [← xo.N] at h1
    refine (pe_var (i := i) h1 ?_ h3 h4).of fun σ H Q ⟨fb, m, ρ, S, o, rs, e, Gd⟩ => ?_
    · rcases h2 with (h2 | h2) | h2
      · exact .inl h2
      · exact .inr (.inl h2)
      · exact .inr (.inr h2)
    · simp only [evE] at e
      split at e
      · rename_i t ht
        simp only [Option.some.injEq] at e
        subst e
        obtain ⟨v, e1, e2⟩ := rs.env.2 i t ht
        exact ⟨v, e1, fin_val Gd rs.sto e2⟩
      · cases e
  · cases h

theorem pe_k (xo : XOk G g E W X) {c : Nat} {e : Expr} (h : chkE G (.cst c) e = true) : PE X e (tE g W (evE E (.cst c))) := by
  simp only [chkE] at h
  split at h
  · rename_i x q
    obtain ⟨p, rfl⟩ := vName_eq q
    simp only [Bool.and_eq_true] at h
    obtain ⟨gl, db⟩ := glb_gl xo h.2
    obtain ⟨u, v, hm, rv, rp⟩ := xo.cst c x (isNm_eq h.1)
    refine (pe_glob gl hm rv db).of fun σ H Q ⟨fb, m, ρ, S, o, rs, e, Gd⟩ => ?_
    simp only [evE, Option.some.injEq] at e
    subst e
    exact fin_val Gd rs.sto (rp _ _ _)
  · cases h

/-! displays -/
theorem pe_tu {es : IE} {xs : List Expr} {k : Nat} {p : Pos} (h : PA X xs (tA g W (evE E es))) : PE X (.Tuple xs k p) (tE g W (evE E (.tup es))) := by
  refine (pe_tup h).of fun σ H Q ⟨fb, m, ρ, S, o, rs, e, Gd⟩ => ?_
  simp only [evE] at e
  refine tA_of (k := fun l S1 => if l.length ≤ line then some (.ok (.tup l) S1) else none) e rs Gd fun l S1 vs m1 H1 ek x rs1 rp Gd1 => ?_
  split at ek
  · rename_i hl
    simp only [Option.some.injEq] at ek
    subst ek
    rw [line_eq, rp.length] at hl
    exact ⟨hl, fin_tup Gd1 rs1.sto rp⟩
  · cases ek
theorem pe_ls {bx : Bool} {es : IE} {xs : List Expr} {p : Pos} (h : PA X xs (tA g W (evE E es))) : PE X (.List xs p) (tE g W (evE E (.lst bx es))) := by
  refine (pe_lst h).of fun σ H Q ⟨fb, m, ρ, S, o, rs, e, Gd⟩ => ?_
  simp only [evE] at e
  refine tA_of (k := fun l S1 => if l.length ≤ line then some (newL bx (.lst l) S1) else none) e rs Gd fun l S1 vs m1 H1 ek x rs1 rp Gd1 => ?_
  split at ek
  · rename_i hl
    simp only [Option.some.injEq] at ek
    subst ek
    rw [line_eq, rp.length] at hl
    exact ⟨hl, fin_lst Gd1 rs1.sto rp⟩
  · cases ek
theorem starEach_cons {e : Expr} {r : List Expr} {env : Env} (h : noStar e = true) : starEach (e :: r) env = (false, eval e env) :: starEach r env := by
  cases e <;> first | rfl | cases h
theorem star_none {E : IE} (G : Gm) : ∀ (E : IE) (r : List Expr) (env : Env) (pos : Pos), chkA G E r = true → (backTo pos (starEach r env)).any (·.1) = false := fun E r env pos => by
  induction r generalizing E with
  | nil => intro _; rfl
  | cons e r ih =>
    intro h
    cases E <;> simp only [chkA] at h <;> try (cases h; done)
    simp only [Bool.and_eq_true] at h
    rw [starEach_cons h.2.1]
    have := ih _ h.2.2
    simpa [backTo] using this
theorem pa_n : PA X [] (tA g W (evE E .nil)) := pa_nil.of fun σ H Q ⟨fb, m, ρ, S, o, rs, e, Gd⟩ => by
  simp only [evE, Option.some.injEq] at e
  subst e
  exact Gd [] m H (Ext.refl _ _) rs.sto RepL.nil
theorem pa_c {a b : IE} {e : Expr} {r : List Expr} (ha : PE X e (tE g W (evE E a))) (hb : PA X r (tA g W (evE E b))) (hs : noStar e = true) : PA X (e :: r) (tA g W (evE E (.cons a b))) := by
  refine (pa_cons ha hb (starEach_cons hs)).of fun σ H Q ⟨fb, m, ρ, S, o, rs, e, Gd⟩ => ?_
  simp only [evE] at e
  cases ea : evE E a ρ S with
  | none => rw [ea] at e; cases e
  | some r =>
    rw [ea] at e
    refine ⟨fb, m, ρ, S, r, rs, ea, ?_⟩
    cases r with
    | ex c p S1 =>
      have : o = .ex c p S1 := (Option.some.inj e).symm
      subst this
      exact Gd
    | ok t S1 =>
      intro v m1 H1 x1 sr1 r1
      have rs1 : RS (g.w fb) m1 σ H1 ρ S1 := ⟨rs.env.mono x1, sr1⟩
      have e : bnd (evE E b ρ S1) (fun y S2 => tups y fun l => some (.ok (.tup (t :: l)) S2)) = some o := e
      cases eb : evE E b ρ S1 with
      | none => rw [eb] at e; cases e
      | some r2 =>
        rw [eb] at e
        refine ⟨fb, m1, ρ, S1, r2, rs1, eb, ?_⟩
        cases r2 with
        | ex c p S2 =>
          have : o = .ex c p S2 := (Option.some.inj e).symm
          subst this
          exact fun cls d m2 H2 x2 sr2 xr => Gd cls d m2 H2 (x1.trans x2) sr2 xr
        | ok u S2 =>
          cases u with
          | tup l =>
            have e : some (Out.ok (.tup (t :: l)) S2) = some o := e
            simp only [Option.some.injEq] at e
            subst e
            intro vs m2 H2 x2 sr2 r2
            exact Gd (v :: vs) m2 H2 (x1.trans x2) sr2 (RepL.cons (Rep.mono x2 t r1) r2)
          | _ => cases e

/-! operators -/
theorem pe_o {bx : Bool} {o : Operator} {a b : IE} {x y : Expr} {p : Pos} (xo : XOk G g E W X) (ha : PE X x (tE g W (evE E a))) (hb : PE X y (tE g W (evE E b))) : PE X (.BinOp x o y p) (tE g W (evE E (.op bx o a b))) := by
  refine (pe_op (op_bx xo.K o) ha hb).of fun σ H Q ⟨fb, m, ρ, S, o', rs, e, Gd⟩ => ?_
  simp only [evE] at e
  refine tE_bnd e rs Gd fun t S1 v m1 H1 e1 x1 rs1 r1 Gd1 => ?_
  refine tE_bnd e1 rs1 Gd1 fun u S2 w m2 H2 e2 x2 rs2 r2 Gd2 => ?_
  simp only [lift] at e2
  split at e2
  · rename_i z hz
    simp only [Option.some.injEq] at e2
    subst e2
    exact ⟨fb, W, m2, σ, S2, bx, _, _, z, rs2.sto, RepD.drf rs2.sto (Rep.mono x2 _ r1), RepD.drf rs2.sto r2, hz, Gd2⟩
  · cases e2
theorem noset_mark {o : CmpOp} {y : Expr} (h : noSet y = true) : behindInMarks o y = false := by
  cases y <;> first | rfl | cases h
theorem pe_cm {o : CmpOp} {a b : IE} {x y : Expr} {p : Pos} (xo : XOk G g E W X) (ha : PE X x (tE g W (evE E a))) (hb : PE X y (tE g W (evE E b))) (hs : noSet y = true) : PE X (.Compare x [o] [y] p) (tE g W (evE E (.cmp o a b))) := by
  refine (pe_cmpR (op_cx xo.K xo.un o) ha hb (noset_mark hs)).of fun σ H Q ⟨fb, m, ρ, S, o', rs, e, Gd⟩ => ?_
  simp only [evE] at e
  refine tE_bnd e rs Gd fun t S1 v m1 H1 e1 x1 rs1 r1 Gd1 => ?_
  refine tE_bnd e1 rs1 Gd1 fun u S2 w m2 H2 e2 x2 rs2 r2 Gd2 => ?_
  simp only [liftB] at e2
  split at e2
  · rename_i z hz
    simp only [Option.some.injEq] at e2
    subst e2
    exact ⟨fb, W, m2, σ, S2, _, _, z, rs2.sto, Rep.mono x2 _ r1, r2, hz, Gd2⟩
  · cases e2
/-- a test that a truth value answers -/
theorem tT_bool {f : Rho → Sto → Res} {σ : L2.St} {H : Hp} {Q : Bool → Hp → Prop} (h : tT g W f σ H Q) (hf : ∀ ρ S t S', f ρ S = some (.ok t S') → ∃ b, t = .bl b) : tE g W f σ H fun x H1 => ∃ k, x = .bl k ∧ Q k H1 := by
  obtain ⟨fb, m, ρ, S, o, rs, e, Gd⟩ := h
  refine ⟨fb, m, ρ, S, o, rs, e, ?_⟩
  cases o with
  | ex c p S' => exact Gd
  | ok t S' =>
    obtain ⟨b, eb, k⟩ := Gd
    intro v m' H' x sr r
    obtain ⟨b', rfl⟩ := hf _ _ _ _ e
    simp only [truthy, Option.some.injEq] at eb
    subst eb
    exact ⟨b', RepD.bl (RepD.of r), k m' H' x sr⟩
end
end Fw

namespace Fw
open PySem L2 PyProof.Rows

section
variable {G : Gm} {g : GW} {E : EV} {W : WX} {X : Cx}

theorem pe_ch {o o' : CmpOp} {a b c : IE} {x y z : Expr} {p : Pos} (xo : XOk G g E W X) (ha : PE X x (tE g W (evE E a))) (hb : PE X y (tE g W (evE E b))) (hc : PE X z (tE g W (evE E c)))
    (hs : noSet y = true) (hs' : noSet z = true) : PE X (.Compare x [o, o'] [y, z] p) (tE g W (evE E (.chn o o' a b c))) := by
  refine (pe_chain (op_cx xo.K xo.un o) (op_cx xo.K xo.un o') ha hb hc (by show lastMarks [o'] [z] = false; exact noset_mark hs')).of fun σ H Q ⟨fb, m, ρ, S, o', rs, e, Gd⟩ => ?_
  simp only [evE] at e
  refine tE_bnd e rs Gd fun t S1 v m1 H1 e1 x1 rs1 r1 Gd1 => ?_
  refine tE_bnd e1 rs1 Gd1 fun u S2 w m2 H2 e2 x2 rs2 r2 Gd2 => ?_
  split at e2
  · rename_i hz
    refine ⟨fb, W, m2, σ, S2, _, _, true, rs2.sto, Rep.mono x2 _ r1, r2, hz, fun v3 m3 H3 x3 sr3 r3 => ⟨true, by simpa [Rep] using r3, iteT ?_⟩⟩
    refine tE_bnd e2 ⟨rs2.env.mono x3, sr3⟩ (Gd2.ext x3) fun u' S4 w' m4 H4 e4 x4 rs4 r4 Gd4 => ?_
    simp only [liftB] at e4
    split at e4
    · rename_i z4 hz4
      simp only [Option.some.injEq] at e4
      subst e4
      exact ⟨fb, W, m4, σ, S4, _, _, z4, rs4.sto, Rep.mono x4 _ (Rep.mono x3 _ r2), r4, hz4, Gd4⟩
    · cases e4
  · rename_i hz
    simp only [Option.some.injEq] at e2
    subst e2
    refine ⟨fb, W, m2, σ, S2, _, _, false, rs2.sto, Rep.mono x2 _ r1, r2, hz, fun v3 m3 H3 x3 sr3 r3 => ⟨false, by simpa [Rep] using r3, iteF ?_⟩⟩
    exact Gd2 _ m3 H3 x3 sr3 Rep.bl_
  · cases e2

theorem pe_ng {a : IE} {x : Expr} {p : Pos} (ha : PE X x (tE g W (evE E a))) : PE X (.UnaryOp .USub x p) (tE g W (evE E (.neg a))) := by
  refine (pe_un un_ng ha).of fun σ H Q ⟨fb, m, ρ, S, o', rs, e, Gd⟩ => ?_
  simp only [evE] at e
  refine tE_bnd e rs Gd fun t S1 v m1 H1 e1 x1 rs1 r1 Gd1 => ?_
  split at e1
  · rename_i t' hn
    simp only [Option.some.injEq] at e1
    subst e1
    unfold negT at hn
    split at hn
    · simp only [Option.some.injEq] at hn
      subst hn
      exact ⟨_, .inl ⟨⟨_, RepD.int (RepD.of r1), rfl⟩, fin_val Gd1 rs1.sto Rep.int_⟩⟩
    · simp only [Option.some.injEq] at hn
      subst hn
      exact ⟨_, .inr ⟨⟨_, RepD.bl (RepD.of r1), rfl⟩, fin_val Gd1 rs1.sto Rep.int_⟩⟩
    · cases hn
  · cases e1

theorem pe_nt {a : IE} {x : Expr} {p : Pos} (xo : XOk G g E W X) (ha : PE X x (tE g W (evE E a))) : PE X (.UnaryOp .Not x p) (tE g W (evE E (.not a))) := by
  refine (pe_notT ha).of fun σ H Q ⟨fb, m, ρ, S, o', rs, e, Gd⟩ => ?_
  simp only [evE] at e
  refine tE_bnd e rs Gd fun t S1 v m1 H1 e1 x1 rs1 r1 Gd1 => ?_
  split at e1
  · rename_i b hb
    simp only [Option.some.injEq] at e1
    subst e1
    exact ⟨b, by rw [xo.K]; exact tru_of rs1.sto r1 hb, fin_val Gd1 rs1.sto Rep.bl_⟩
  · cases e1

theorem and_of {a b : IE} {σ : L2.St} {H : Hp} {Q : VK} (h : tE g W (evE E (.and a b)) σ H Q) : tAndT g.K (tE g W (evE E a)) (tE g W (evE E b)) σ H Q := by
  obtain ⟨fb, m, ρ, S, o', rs, e, Gd⟩ := h
  simp only [evE] at e
  refine tE_bnd e rs Gd fun t S1 v m1 H1 e1 x1 rs1 r1 Gd1 => ?_
  split at e1
  · rename_i hb
    exact ⟨true, tru_of rs1.sto r1 hb, iteT ⟨fb, m1, ρ, S1, o', rs1, e1, Gd1⟩⟩
  · rename_i hb
    simp only [Option.some.injEq] at e1
    subst e1
    exact ⟨false, tru_of rs1.sto r1 hb, iteF (fin_val Gd1 rs1.sto r1)⟩
  · cases e1
theorem or_of {a b : IE} {σ : L2.St} {H : Hp} {Q : VK} (h : tE g W (evE E (.or a b)) σ H Q) : tOrT g.K (tE g W (evE E a)) (tE g W (evE E b)) σ H Q := by
  obtain ⟨fb, m, ρ, S, o', rs, e, Gd⟩ := h
  simp only [evE] at e
  refine tE_bnd e rs Gd fun t S1 v m1 H1 e1 x1 rs1 r1 Gd1 => ?_
  split at e1
  · rename_i hb
    simp only [Option.some.injEq] at e1
    subst e1
    exact ⟨true, tru_of rs1.sto r1 hb, iteT (fin_val Gd1 rs1.sto r1)⟩
  · rename_i hb
    exact ⟨false, tru_of rs1.sto r1 hb, iteF ⟨fb, m1, ρ, S1, o', rs1, e1, Gd1⟩⟩
  · cases e1

theorem vAnd_eq {e x y : Expr} (h : vAnd e = some (x, y)) : (∃ p, e = .BoolOp .And [x, y] p) ∨ ∃ z w r p, e = .BoolOp .And (x :: z :: w :: r) p ∧ y = .BoolOp .And (z :: w :: r) p := by
  unfold vAnd at h
  split at h
  · simp only [Option.some.injEq, Prod.mk.injEq] at h
    obtain ⟨rfl, rfl⟩ := h
    exact .inl ⟨_, rfl⟩
  · simp only [Option.some.injEq, Prod.mk.injEq] at h
    obtain ⟨rfl, rfl⟩ := h
    exact .inr ⟨_, _, _, _, rfl, rfl⟩
  · cases h
theorem vOr_eq {e x y : Expr} (h : vOr e = some (x, y)) : (∃ p, e = .BoolOp .Or [x, y] p) ∨ ∃ z w r p, e = .BoolOp .Or (x :: z :: w :: r) p ∧ y = .BoolOp .Or (z :: w :: r) p := by
  unfold vOr at h
  split at h
  · simp only [Option.some.injEq, Prod.mk.injEq] at h
    obtain ⟨rfl, rfl⟩ := h
    exact .inl ⟨_, rfl⟩
  · simp only [Option.some.injEq, Prod.mk.injEq] at h
    obtain ⟨rfl, rfl⟩ := h
    exact .inr ⟨_, _, _, _, rfl, rfl⟩
  · cases h

theorem pe_an {a b : IE} {e x y : Expr} (xo : XOk G g E W X) (hv : vAnd e = some (x, y)) (ha : PE X x (tE g W (evE E a))) (hb : PE X y (tE g W (evE E b))) : PE X e (tE g W (evE E (.and a b))) := by
  rcases vAnd_eq hv with ⟨p, rfl⟩ | ⟨z, w, r, p, rfl, rfl⟩
  · exact (pe_andT ha (pe_one hb)).of fun σ H Q h => by rw [xo.K]; exact and_of h
  · exact (pe_andT ha hb).of fun σ H Q h => by rw [xo.K]; exact and_of h
theorem pe_orr {a b : IE} {e x y : Expr} (xo : XOk G g E W X) (hv : vOr e = some (x, y)) (ha : PE X x (tE g W (evE E a))) (hb : PE X y (tE g W (evE E b))) : PE X e (tE g W (evE E (.or a b))) := by
  rcases vOr_eq hv with ⟨p, rfl⟩ | ⟨z, w, r, p, rfl, rfl⟩
  · exact (pe_orT ha (pe_one hb)).of fun σ H Q h => by rw [xo.K]; exact or_of h
  · exact (pe_orT ha hb).of fun σ H Q h => by rw [xo.K]; exact or_of h

/-! tests -/
/-- the first part of a test -/
theorem tT_part {fb : List Addr} {f : Rho → Sto → Res} {k : T → Sto → Res} {m : List Addr} {σ : L2.St} {H : Hp} {ρ : Rho} {S : Sto} {o : Out} {Q R : Bool → Hp → Prop}
    (h : bnd (f ρ S) k = some o) (rs : RS (g.w fb) m σ H ρ S) (G : GoodT (g.w fb) W m σ H Q o)
    (hb : ∀ t S1, k t S1 = some o → ∃ b, truthy S1 t = some b ∧ ∀ m1 H1, Ext m H m1 H1 → RS (g.w fb) m1 σ H1 ρ S1 → R b H1) : tT g W f σ H R := by
  cases e : f ρ S with
  | none => rw [e] at h; cases h
  | some r =>
    rw [e] at h
    refine ⟨fb, m, ρ, S, r, rs, e, ?_⟩
    cases r with
    | ok t S1 =>
      obtain ⟨b, eb, q⟩ := hb t S1 h
      exact ⟨b, eb, fun m1 H1 x sr => q m1 H1 x ⟨rs.env.mono x, sr⟩⟩
    | ex c p S1 =>
      have : o = .ex c p S1 := (Option.some.inj h).symm
      subst this
      exact G

/-- what a test's end is to reach, in a grown heap -/
theorem tT_ext {fb : List Addr} {f : Rho → Sto → Res} {m m1 : List Addr} {σ : L2.St} {H H1 : Hp} {ρ : Rho} {S : Sto} {o : Out} {Q : Bool → Hp → Prop} (x : Ext m H m1 H1) (rs : RS (g.w fb) m1 σ H1 ρ S) (e : f ρ S = some o)
    (G : GoodT (g.w fb) W m σ H Q o) : tT g W f σ H1 Q := by
  refine ⟨fb, m1, ρ, S, o, rs, e, ?_⟩
  cases o with
  | ok t S' =>
    obtain ⟨b, eb, q⟩ := G
    exact ⟨b, eb, fun m' H' x' sr => q m' H' (x.trans x') sr⟩
  | ex c p S' => exact fun cls d m' H' x' sr xr => G cls d m' H' (x.trans x') sr xr

theorem tand_of {a b : IE} {σ : L2.St} {H : Hp} {Q : Bool → Hp → Prop} (h : tT g W (evE E (.and a b)) σ H Q) : tAnd (tT g W (evE E a)) (tT g W (evE E b)) σ H Q := by
  obtain ⟨fb, m, ρ, S, o', rs, e, Gd⟩ := h
  simp only [evE] at e
  refine tT_part e rs Gd fun t S1 e1 => ?_
  split at e1
  · rename_i hb
    exact ⟨true, hb, fun m1 H1 x1 rs1 => iteT (tT_ext x1 rs1 e1 Gd)⟩
  · rename_i hb
    simp only [Option.some.injEq] at e1
    subst e1
    obtain ⟨b, eb, q⟩ := Gd
    rw [hb] at eb
    cases eb
    exact ⟨false, hb, fun m1 H1 x1 rs1 => iteF (q m1 H1 x1 rs1.sto)⟩
  · cases e1
theorem tor_of {a b : IE} {σ : L2.St} {H : Hp} {Q : Bool → Hp → Prop} (h : tT g W (evE E (.or a b)) σ H Q) : tOr (tT g W (evE E a)) (tT g W (evE E b)) σ H Q := by
  obtain ⟨fb, m, ρ, S, o', rs, e, Gd⟩ := h
  simp only [evE] at e
  refine tT_part e rs Gd fun t S1 e1 => ?_
  split at e1
  · rename_i hb
    simp only [Option.some.injEq] at e1
    subst e1
    obtain ⟨b, eb, q⟩ := Gd
    rw [hb] at eb
    cases eb
    exact ⟨true, hb, fun m1 H1 x1 rs1 => iteT (q m1 H1 x1 rs1.sto)⟩
  · rename_i hb
    exact ⟨false, hb, fun m1 H1 x1 rs1 => iteF (tT_ext x1 rs1 e1 Gd)⟩
  · cases e1
theorem pw_bool {op : BoolOp} {es : List Expr} {p : Pos} {t : TT} (h : PT X (.BoolOp op es p) t) : PW X (.BoolOp op es p) t :=
  ⟨fun whole pins s σ H Q I q => by
    have z := h.run pins s σ H Q I q
    exact z⟩
theorem pt_an {a b : IE} {e x y : Expr} (hv : vAnd e = some (x, y)) (ha : PT X x (tT g W (evE E a))) (hb : PT X y (tT g W (evE E b))) : PT X e (tT g W (evE E (.and a b))) := by
  rcases vAnd_eq hv with ⟨p, rfl⟩ | ⟨z, w, r, p, rfl, rfl⟩
  · exact (pw_and ha (pw_and1 hb)).pt.of fun σ H Q h => tand_of h
  · exact (pw_and ha (pw_bool hb)).pt.of fun σ H Q h => tand_of h
theorem pt_orr {a b : IE} {e x y : Expr} (hv : vOr e = some (x, y)) (ha : PT X x (tT g W (evE E a))) (hb : PT X y (tT g W (evE E b))) : PT X e (tT g W (evE E (.or a b))) := by
  rcases vOr_eq hv with ⟨p, rfl⟩ | ⟨z, w, r, p, rfl, rfl⟩
  · exact (pw_or ha (pw_or1 hb)).pt.of fun σ H Q h => tor_of h
  · exact (pw_or ha (pw_bool hb)).pt.of fun σ H Q h => tor_of h
theorem pt_nt {a : IE} {x : Expr} {p : Pos} (ha : PT X x (tT g W (evE E a))) : PT X (.UnaryOp .Not x p) (tT g W (evE E (.not a))) := by
  refine (pt_not ha).of fun σ H Q ⟨fb, m, ρ, S, o', rs, e, Gd⟩ => ?_
  simp only [evE] at e
  refine tT_part e rs Gd fun t S1 e1 => ?_
  split at e1
  · rename_i b hb
    simp only [Option.some.injEq] at e1
    subst e1
    obtain ⟨b', eb, q⟩ := Gd
    simp only [truthy, Option.some.injEq] at eb
    subst eb
    exact ⟨b, hb, fun m1 H1 x1 rs1 => q m1 H1 x1 rs1.sto⟩
  · cases e1
/-- a test by its value -/
theorem pt_tr {f : Rho → Sto → Res} {x : Expr} (xo : XOk G g E W X) (ha : PE X x (tE g W f)) (he : ∀ whole, isTrue x X.env whole = (do let v ← whole; standAt x.pos; holding [v] (PySem.truthy v))) : PT X x (tT g W f) :=
  (pt_truth ha he).of fun σ H Q h => by
    have := tT_of h
    rw [xo.K]
    exact this
/-- .. where it is True or False -/
theorem tT_tB {f : Rho → Sto → Res} (hf : ∀ ρ S t S', f ρ S = some (.ok t S') → ∃ b, t = .bl b) {σ : L2.St} {H : Hp} {Q : Bool → Hp → Prop} (h : tT g W f σ H Q) : tE g W f σ H fun x H1 => ∃ c, x = .bl c ∧ Q c H1 := tT_bool h hf

theorem pe_if {c a b : IE} {z x y : Expr} {p : Pos} (hc : PT X z (tT g W (evE E c))) (ha : PE X x (tE g W (evE E a))) (hb : PE X y (tE g W (evE E b))) : PE X (.IfExp z x y p) (tE g W (evE E (.ite c a b))) := by
  refine (pe_ifExp hc ha hb).of fun σ H Q ⟨fb, m, ρ, S, o', rs, e, Gd⟩ => ?_
  simp only [evE] at e
  refine tT_bnd e rs Gd (fun t S1 m1 H1 e1 x1 rs1 Gd1 => ?_) fun t S1 e1 => ?_
  · split at e1
    · rename_i hb
      exact ⟨true, hb, iteT ⟨fb, m1, ρ, S1, o', rs1, e1, Gd1⟩⟩
    · rename_i hb
      exact ⟨false, hb, iteF ⟨fb, m1, ρ, S1, o', rs1, e1, Gd1⟩⟩
    · cases e1
  · split at e1
    · rename_i hb; exact ⟨true, hb⟩
    · rename_i hb; exact ⟨false, hb⟩
    · cases e1
theorem cmp_bl {o : CmpOp} {a b : IE} (ρ : Rho) (S : Sto) (t : T) (S' : Sto) (h : evE E (.cmp o a b) ρ S = some (.ok t S')) : ∃ k, t = .bl k := by
  simp only [evE] at h
  cases e1 : evE E a ρ S with
  | none => rw [e1] at h; cases h
  | some r1 =>
    rw [e1] at h
    cases r1 with
    | ex c p S1 => cases h
    | ok x S1 =>
      have h : bnd (evE E b ρ S1) (fun y S2 => liftB (cop S2 o x y) S2) = some (.ok t S') := h
      cases e2 : evE E b ρ S1 with
      | none => rw [e2] at h; cases h
      | some r2 =>
        rw [e2] at h
        cases r2 with
        | ex c p S2 => cases h
        | ok y S2 =>
          have h : liftB (cop S2 o x y) S2 = some (.ok t S') := h
          simp only [liftB] at h
          split at h
          · simp only [Option.some.injEq, Out.ok.injEq] at h
            exact ⟨_, h.1.symm⟩
          · cases h
theorem chn_bl {o o' : CmpOp} {a b c : IE} (ρ : Rho) (S : Sto) (t : T) (S' : Sto) (h : evE E (.chn o o' a b c) ρ S = some (.ok t S')) : ∃ k, t = .bl k := by
  simp only [evE] at h
  cases e1 : evE E a ρ S with
  | none => rw [e1] at h; cases h
  | some r1 =>
    rw [e1] at h
    cases r1 with
    | ex c p S1 => cases h
    | ok x S1 =>
      simp only [bnd] at h
      cases e2 : evE E b ρ S1 with
      | none => rw [e2] at h; cases h
      | some r2 =>
        rw [e2] at h
        cases r2 with
        | ex c p S2 => cases h
        | ok y S2 =>
          simp only at h
          split at h
          · cases e3 : evE E c ρ S2 with
            | none => rw [e3] at h; cases h
            | some r3 =>
              rw [e3] at h
              cases r3 with
              | ex c p S3 => cases h
              | ok z S3 =>
                simp only [liftB] at h
                split at h
                · simp only [Option.some.injEq, Out.ok.injEq] at h
                  exact ⟨_, h.1.symm⟩
                · cases h
          · simp only [Option.some.injEq, Out.ok.injEq] at h
            exact ⟨_, h.1.symm⟩
          · cases h
theorem pt_cm {o : CmpOp} {a b : IE} {x y : Expr} {p : Pos} (xo : XOk G g E W X) (ha : PE X x (tE g W (evE E a))) (hb : PE X y (tE g W (evE E b))) (hs : noSet y = true) : PT X (.Compare x [o] [y] p) (tT g W (evE E (.cmp o a b))) := by
  refine (pt_cmpR (op_cx xo.K xo.un o) ha hb (noset_mark hs)).of fun σ H Q h => ?_
  obtain ⟨fb, m, ρ, S, o', rs, e, Gd⟩ := tT_bool h cmp_bl
  simp only [evE] at e
  refine tE_bnd e rs Gd fun t S1 v m1 H1 e1 x1 rs1 r1 Gd1 => ?_
  refine tE_bnd e1 rs1 Gd1 fun u S2 w m2 H2 e2 x2 rs2 r2 Gd2 => ?_
  simp only [liftB] at e2
  split at e2
  · rename_i z hz
    simp only [Option.some.injEq] at e2
    subst e2
    exact ⟨fb, W, m2, σ, S2, _, _, z, rs2.sto, Rep.mono x2 _ r1, r2, hz, Gd2⟩
  · cases e2
end
end Fw

/-! t[::-1] -/
namespace HT
open PySem PyProof.Rows L2
section
variable {prog : Program} {w : World} {A : Around} {E : Value → Shared → Prop} {s : Shared}
theorem sliceApplied_rev {sl : Addr} {vs : Value} {n : Nat} {Q : Int × Int × Nat → Shared → Prop} (hs : s.heap.IsSliceOf sl .none .none vs) (ps : IsPart vs (some (-1)))
    (h : Q ((n : Int) - 1, -1, n) s) : wpAny (model prog w) A (Builtin.Slice.sliceApplied (.ref sl) (pure (n : Int))) Q E s := by
  obtain ⟨os, hos, hcs, hds⟩ := id hs
  unfold Builtin.Slice.sliceApplied Builtin.Slice.sliceFields
  refine wpAny_bind (wpAny_bind (wpAny_field hos hds (x := .none) rfl (wpAny_bind (wpAny_field hos hds (x := .none) rfl (wpAny_bind (wpAny_field hos hds (x := vs) rfl (wpAny_pure ?_)))))))
  refine wpAny_bind (slicePart_ ps ?_)
  show wpAny _ _ (if ((-1 : Int) == 0) = true then _ else _) _ _ s
  rw [if_neg (by decide)]
  refine wpAny_bind (slicePart_none (wpAny_bind (slicePart_none (wpAny_bind (wpAny_pure ?_)))))
  show wpAny _ _ (pure ((n : Int) - 1, (-1 : Int), Builtin.Slice.slicePlaces ((n : Int) - 1) (-1) (-1))) _ _ s
  have e : Builtin.Slice.slicePlaces ((n : Int) - 1) (-1) (-1) = n := by
    unfold Builtin.Slice.slicePlaces
    have h1 : ¬ ((-1 : Int) > 0) := by omega
    simp only [h1, if_false]
    have h2 : -(-1 : Int) = 1 := rfl
    rw [h2, Int.ediv_one]
    split <;> omega
  rw [e]
  exact wpAny_pure h
theorem fm_congr {α β : Type} {f g : α → Option β} : ∀ (l : List α), (∀ m ∈ l, f m = g m) → l.filterMap f = l.filterMap g
  | [], _ => rfl
  | a :: r, h => by
    rw [List.filterMap_cons, List.filterMap_cons, h a List.mem_cons_self, fm_congr r fun m hm => h m (List.mem_cons_of_mem _ hm)]
theorem pick_rev (xs : Array Value) : ((List.range xs.size).filterMap fun (m : Nat) => xs[(((xs.size : Int) - 1) + (m : Int) * (-1)).toNat]?).toArray = xs.toList.reverse.toArray := by
  congr 1
  have e := fm_congr (f := fun (m : Nat) => xs[(((xs.size : Int) - 1) + (m : Int) * (-1)).toNat]?) (g := fun (m : Nat) => xs.reverse[m]?) (List.range xs.size) fun m hm => by
    have hm' : m < xs.size := List.mem_range.mp hm
    have : (((xs.size : Int) - 1) + (m : Int) * (-1)).toNat = xs.size - 1 - m := by omega
    rw [this]
    rw [Array.getElem?_reverse hm']
  rw [e]
  have := PySem.W.krv_all xs.reverse
  rw [Array.size_reverse] at this
  rw [this]
  simp
theorem getItem_tuple_rev {t sl : Addr} {items : Array Value} {vs : Value} {Q : Value → Shared → Prop} (ht : IsTup s.heap t items) (hs : s.heap.IsSliceOf sl .none .none vs) (ps : IsPart vs (some (-1)))
    (h : Q (.ref s.heap.objs.size) { s with heap := s.heap.push { cls := .type "tuple", data := .seq items.toList.reverse.toArray } })
    (hsz : items.size ≤ sizeLine) : wpAny (model prog w) A (getItem (.ref t) (.ref sl)) Q E s := by
  have htake : sizeOk (.seq items.toList.reverse.toArray) := by
    show items.toList.reverse.toArray.size ≤ sizeLine
    rw [List.size_toArray, List.length_reverse, Array.length_toList]
    exact hsz
  obtain ⟨os, hos, hcs, hds⟩ := id hs
  have hTs : s.TypeIs (.ref sl) "slice" := ⟨os, hos, hcs⟩
  unfold getItem
  try with_reducible refine wpAny_holding ?_
  first | refine wpAny_bind (wpAny_pure ?_) | skip
  refine wpAny_bind (wpAny_sequenceKey ht.typeIs (by decide) ?_)
  refine wpAny_bind (wpAny_callSpecial?_slot (name := Str.ofString "__getitem__") ht.typeIs PyProof.Rows.slot_tuple_getitem
    (wpAny_call_entry PyProof.Rows.slot_tuple_getitem ht.typeIs entry_tuple_getitem ?_ (args_tuple_getitem _ _)))
  show wpAny _ _ (Builtin.Tuple.tupleItemsOf (.ref t) >>= _) _ _ s
  refine wpAny_bind (tupleItemsOf_ ht ?_)
  refine wpAny_bind (wpAny_typeOf hTs ?_)
  rw [if_pos (by decide)]
  refine wpAny_bind (sliceApplied_rev hs ps ?_)
  have hno : ¬ ((((items.size : Int) - 1) == 0 && (-1 : Int) == 1 && items.size == items.size) = true) := by
    intro q
    rw [Bool.and_eq_true, Bool.and_eq_true] at q
    exact absurd q.1.2 (by decide)
  show wpAny _ _ (if (((items.size : Int) - 1) == 0 && (-1 : Int) == 1 && items.size == items.size) = true then _ else _) _ _ s
  rw [if_neg hno, pick_rev]
  first
    | exact wpAny_bind (m := Builtin.Tuple.tupleExact _) (wpAny_newObj_type (wpAny_pure ⟨_, rfl, wpAny_pure h⟩) htake)
    | exact wpAny_bind (m := Builtin.Tuple.tupleExact _) (wpAny_newObj_type (wpAny_bind (wpAny_pure (wpAny_pure ⟨_, rfl, wpAny_pure h⟩))) htake)
    | exact wpAny_bind (wpAny_bind (m := Builtin.Tuple.tupleExact _) (wpAny_newObj_type (wpAny_pure (wpAny_pure ⟨_, rfl, wpAny_pure h⟩)) htake))
    | exact wpAny_bind (wpAny_bind (m := Builtin.Tuple.tupleExact _) (wpAny_newObj_type (wpAny_pure ⟨_, rfl, wpAny_pure h⟩) htake))
end
end HT

namespace L2
open PySem PySem.Spec PyProof.Rows
section
variable {X : Cx}
/-- xs[::-1], t[::-1] -/
def tRevA (K : PySem.W.Frag) (te : TE) : TE := fun σ H Q => te σ H fun x H1 => ∃ a xs, x = .ref a ∧
  ((SqL K H1 a xs ∧ ∀ p, H1 p = none → Q (.ref p) (upd H1 p (.lst xs.reverse))) ∨ (SqT K H1 a xs ∧ ∀ p, H1 p = none → Q (.ref p) (upd H1 p (.tup xs.reverse))))
theorem pe_revA {e : Expr} {te : TE} {k : Nat} {p1 p2 p3 pos : Pos} (he : PE X e te) : PE X (.Subscript e (.Slice none none (some (.UnaryOp .USub (.Constant (.int 1) k p1) p2)) p3) pos) (tRevA X.K te) := by
  refine ⟨fun pins s σ H Q I h => ?_⟩
  refine Subscript_ (thn (he.run pins s σ H _ I h) fun v s1 ⟨x, H1, I1, r1, q1⟩ => ?_)
  obtain ⟨a, xs, ex, q⟩ := q1
  subst ex
  cases r1
  have hst : PO X (some (.UnaryOp .USub (.Constant (.int 1) k p1) p2)) (tPart (tUn (rU fun i => .int (-i)) (tC (.int 1)))) := po_some (pe_un un_neg pe_int)
  have hno : ∀ {s : Shared} {Q : Value → Shared → Prop}, Inv X pins σ H1 s → (∀ s', Inv X pins σ H1 s' → Q .none s') → wpAny (model X.prog X.w) X.A (valueOrNone (evalOpt none X.env)) Q X.xe s := fun {s Q} I h => by
    show wpAny _ _ (pure Value.none) _ _ _
    exact wpAny_pure (h s I)
  refine wpAny_Slice (hno I1 fun s2 I2 => hno I2 fun s3 I3 => ?_)
  refine thn (hst.run pins s3 σ H1 (fun o H4 => o = some (-1) ∧ H4 = H1) I3 ⟨1, rfl, -1, rfl, rfl, rfl⟩) fun vs s4 ⟨o, H4, I4, ps, eo, e4⟩ => ?_
  subst eo
  rw [e4] at I4
  have I5 : Inv X pins σ H1 { s4 with heap := s4.heap.push { cls := .type "slice", data := .fields #[.none, .none, vs] } } := I4.kept (t' := s4.toks) fun b ob q => Heap.get?_push_of_some _ q
  show wpAny (model X.prog X.w) X.A (subscriptTail e (.Slice none none (some (.UnaryOp .USub (.Constant (.int 1) k p1) p2)) p3) (.ref a) (.ref s4.heap.objs.size)) (EP X pins σ Q) X.xe { s4 with heap := s4.heap.push { cls := .type "slice", data := .fields #[.none, .none, vs] } }
  rcases q with ⟨hx, q⟩ | ⟨hx, q⟩
  · obtain ⟨its, r, ht, hz⟩ := I5.list hx
    have hlen := r.length
    refine tail_any (ops := [.ref a, .ref s4.heap.objs.size]) ht.isList.typeIs (PySem.slot_list_getitem.lookup) ?_ (by with_unfolding_all rfl)
    refine wpAny_getItem_list_slice ht.isList (Heap.IsSliceOf.new _ .none .none vs) .none .none ps (by decide) ?_ (by rw [List.size_toArray]; omega)
    rw [PySem.W.krv_pick]
    refine ⟨.ref _, _, I5.laid (t' := s4.toks) (o := .lst xs.reverse) (fun b ob q => Heap.get?_push_of_some _ q) (Nat.le_refl _) ?_, rfl, q _ (I5.hok.fresh (Nat.le_refl _))⟩
    exact ⟨by rw [List.length_reverse]; exact hz, _, 0, r.reverse, Heap.get?_push_size _ rfl⟩
  · obtain ⟨its, r, ht, hz⟩ := I5.tuple hx
    have hlen := r.length
    refine tail_any (ops := [.ref a, .ref s4.heap.objs.size]) ht.typeIs (PyProof.Rows.slot_tuple_getitem.lookup) ?_ (by with_unfolding_all rfl)
    refine HT.getItem_tuple_rev ht (Heap.IsSliceOf.new _ .none .none vs) ps ?_ (by rw [List.size_toArray]; omega)
    refine ⟨.ref _, _, I5.laid (t' := s4.toks) (o := .tup xs.reverse) (fun b ob q => Heap.get?_push_of_some _ q) (Nat.le_refl _) ?_, rfl, q _ (I5.hok.fresh (Nat.le_refl _))⟩
    exact ⟨by rw [List.length_reverse]; exact hz, _, r.reverse, _, Heap.get?_push_size _ rfl, rfl, 0, rfl⟩
end
end L2

namespace Fw
open PySem L2 PyProof.Rows

section
variable {G : Gm} {g : GW} {E : EV} {W : WX} {X : Cx}

/-! subscripts, slices -/
theorem vIx_eq {e x y : Expr} (h : vIx e = some (x, y)) : ∃ p, e = .Subscript x y p ∧ PlainIx y := by
  cases e with
  | Subscript a b p =>
    cases b <;> simp [vIx] at h
    all_goals
      obtain ⟨rfl, rfl⟩ := h
      exact ⟨p, rfl, fun _ _ => rfl⟩
  | _ => simp [vIx] at h
theorem pe_i {a b : IE} {e x y : Expr} (xo : XOk G g E W X) (hv : vIx e = some (x, y)) (ha : PE X x (tE g W (evE E a))) (hb : PE X y (tE g W (evE E b))) : PE X e (tE g W (evE E (.ix a b))) := by
  obtain ⟨p, rfl, hp⟩ := vIx_eq hv
  refine (pe_ix (ix_x xo.K) ha hb hp).of fun σ H Q ⟨fb, m, ρ, S, o', rs, e, Gd⟩ => ?_
  simp only [evE] at e
  refine tE_bnd e rs Gd fun t S1 v m1 H1 e1 x1 rs1 r1 Gd1 => ?_
  refine tE_bnd e1 rs1 Gd1 fun u S2 w m2 H2 e2 x2 rs2 r2 Gd2 => ?_
  simp only [lift] at e2
  split at e2
  · rename_i z hz
    simp only [Option.some.injEq] at e2
    subst e2
    have Gd3 : GoodE (g.w fb) W m2 σ H2 Q (.ok z S2) := by
      cases z <;> exact Gd2
    exact ⟨fb, W, m2, σ, S2, _, _, z, rs2.sto, Rep.mono x2 _ r1, r2, hz, Gd3⟩
  · cases e2

theorem po_of {a : IE} {o : Option Expr} (hc : o = none → isNil a = true) (hs : ∀ e, o = some e → isNil a = false ∧ PE X e (tE g W (evE E a))) : PO X o (tO g W (isNil a) (evE E a)) := by
  cases o with
  | none =>
    have hn := hc rfl
    cases a <;> simp [isNil] at hn
    refine ⟨fun pins s σ H Q I q => ?_⟩
    refine po_none.run pins s σ H Q I ?_
    obtain ⟨fb, m, ρ, S, o', rs, e, Gd⟩ := q
    simp only [evE, Option.some.injEq] at e
    subst e
    obtain ⟨i, ei, k⟩ := Gd
    simp only [part, isNil, if_true, Option.some.injEq] at ei
    subst ei
    exact k m H (Ext.refl _ _) rs.sto
  | some e =>
    obtain ⟨hn, h⟩ := hs e rfl
    refine ⟨fun pins s σ H Q I q => ?_⟩
    refine (po_some h).run pins s σ H Q I ?_
    obtain ⟨fb, m, ρ, S, o', rs, e, Gd⟩ := q
    refine ⟨fb, m, ρ, S, o', rs, e, ?_⟩
    cases o' with
    | ex c p S' => exact Gd
    | ok t S' =>
      obtain ⟨i, ei, k⟩ := Gd
      intro v m' H' x sr r
      rw [hn] at ei
      simp only [part, Bool.false_eq_true, if_false] at ei
      split at ei
      · rename_i j
        simp only [Option.some.injEq] at ei
        subst ei
        exact ⟨j, RepD.int (RepD.of r), k m' H' x sr⟩
      · cases ei
theorem vSl_eq {e x : Expr} {l h : Option Expr} (q : vSl e = some (x, l, h)) : ∃ p p2, e = .Subscript x (.Slice l h none p2) p := by
  unfold vSl at q
  split at q
  · simp only [Option.some.injEq, Prod.mk.injEq] at q
    obtain ⟨rfl, rfl, rfl⟩ := q
    exact ⟨_, _, rfl⟩
  · cases q
theorem tO_part {nl : Bool} {fb : List Addr} {f : Rho → Sto → Res} {k : T → Sto → Res} {m : List Addr} {σ : L2.St} {H : Hp} {ρ : Rho} {S : Sto} {o : Out} {Q : VK} {R : Option Int → Hp → Prop}
    (h : bnd (f ρ S) k = some o) (rs : RS (g.w fb) m σ H ρ S) (G : GoodE (g.w fb) W m σ H Q o) (hp : ∀ t S1, k t S1 = some o → ∃ i, part nl t = some i)
    (hb : ∀ t S1 i m1 H1, k t S1 = some o → part nl t = some i → Ext m H m1 H1 → RS (g.w fb) m1 σ H1 ρ S1 → GoodE (g.w fb) W m1 σ H1 Q o → R i H1) : tO g W nl f σ H R := by
  cases e : f ρ S with
  | none => rw [e] at h; cases h
  | some r =>
    rw [e] at h
    refine ⟨fb, m, ρ, S, r, rs, e, ?_⟩
    cases r with
    | ok t S1 =>
      obtain ⟨i, ei⟩ := hp t S1 h
      exact ⟨i, ei, fun m1 H1 x sr => hb t S1 i m1 H1 h ei x ⟨rs.env.mono x, sr⟩ (G.ext x)⟩
    | ex c p S1 =>
      have : o = .ex c p S1 := (Option.some.inj h).symm
      subst this
      exact G
theorem pe_s {bx : Bool} {a lo hi : IE} {e x : Expr} {l h : Option Expr} (xo : XOk G g E W X) (hv : vSl e = some (x, l, h)) (ha : PE X x (tE g W (evE E a))) (hl : PO X l (tO g W (isNil lo) (evE E lo))) (hh : PO X h (tO g W (isNil hi) (evE E hi))) :
    PE X e (tE g W (evE E (.sl bx a lo hi))) := by
  obtain ⟨p, p2, rfl⟩ := vSl_eq hv
  refine (pe_slice (sl_x xo.K) ha hl hh).of fun σ H Q ⟨fb, m, ρ, S, o', rs, e, Gd⟩ => ?_
  simp only [evE] at e
  refine tE_bnd e rs Gd fun t S1 v m1 H1 e1 x1 rs1 r1 Gd1 => ?_
  refine tO_part e1 rs1 Gd1 (fun tl S2 q => ?_) fun tl S2 i m2 H2 q ei x2 rs2 Gd2 => ?_
  · split at q
    · rename_i i hi; exact ⟨i, hi⟩
    · cases q
  · rw [ei] at q
    refine tO_part q rs2 Gd2 (fun th S3 q3 => ?_) fun th S3 j m3 H3 q3 ej x3 rs3 Gd3 => ?_
    · split at q3
      · rename_i i hi; exact ⟨i, hi⟩
      · cases q3
    · rw [ej] at q3
      simp only [lift] at q3
      split at q3
      · rename_i z hz
        simp only [Option.some.injEq] at q3
        subst q3
        exact ⟨fb, W, m3, σ, S3, bx, t, z, rs3.sto, Rep.mono x3 _ (Rep.mono x2 _ r1), hz, Gd3⟩
      · cases q3

theorem vRev_eq {e x : Expr} (h : vRev e = some x) : ∃ k p1 p2 p3 p, e = .Subscript x (.Slice none none (some (.UnaryOp .USub (.Constant (.int 1) k p1) p2)) p3) p := by
  unfold vRev at h
  split at h
  · simp only [Option.some.injEq] at h
    subst h
    exact ⟨_, _, _, _, _, rfl⟩
  · cases h
theorem pe_r {bx : Bool} {a : IE} {e x : Expr} (xo : XOk G g E W X) (hv : vRev e = some x) (ha : PE X x (tE g W (evE E a))) : PE X e (tE g W (evE E (.rev bx a))) := by
  obtain ⟨k, p1, p2, p3, p, rfl⟩ := vRev_eq hv
  refine (pe_revA ha).of fun σ H Q ⟨fb, m, ρ, S, o', rs, e, Gd⟩ => ?_
  simp only [evE] at e
  refine tE_bnd e rs Gd fun t S1 v m1 H1 e1 x1 rs1 r1 Gd1 => ?_
  simp only [lift] at e1
  split at e1
  · rename_i z hz
    simp only [Option.some.injEq] at e1
    subst e1
    have rd := RepD.drf rs1.sto r1
    unfold revT at hz
    split at hz
    · rename_i l hl
      rw [hl] at rd
      obtain ⟨a', vs, rfl, q1, l1⟩ := RepD.tup rd
      simp only [Option.some.injEq] at hz; subst hz
      have q1 : SqT g.K H1 a' vs := q1
      rw [← xo.K] at q1
      exact ⟨a', vs, rfl, .inr ⟨q1, fin_tup Gd1 rs1.sto l1.reverse⟩⟩
    · rename_i l hl
      rw [hl] at rd
      obtain ⟨a', vs, rfl, q1, l1⟩ := RepD.lst rd
      simp only [Option.some.injEq] at hz; subst hz
      exact ⟨a', vs, rfl, .inl ⟨SqL.of q1, fin_lst Gd1 rs1.sto l1.reverse⟩⟩
    · cases hz
  · cases e1

/-! calls -/
theorem vCall_eq {e : Expr} {x : Str} {r : List Expr} (h : vCall e = some (x, r)) : ∃ p q a es, e = .Call (.Name x p) (a :: es) [] q ∧ r = a :: es := by
  unfold vCall at h
  split at h
  · simp only [Option.some.injEq, Prod.mk.injEq] at h
    obtain ⟨rfl, rfl⟩ := h
    exact ⟨_, _, _, _, rfl, rfl⟩
  · cases h
theorem star_tail {es : IE} {a : Expr} {r : List Expr} (G : Gm) (env : Env) (pos : Pos) (h : chkA G es (a :: r) = true) : starEach (a :: r) env = (false, eval a env) :: starEach r env ∧ (backTo pos (starEach r env)).any (·.1) = false := by
  cases es <;> simp only [chkA] at h <;> try (cases h; done)
  simp only [Bool.and_eq_true] at h
  exact ⟨starEach_cons h.2.1, star_none (E := .nil) G _ r env pos h.2.2⟩
theorem goodC {m : List Addr} {σ : L2.St} {H : Hp} {Q : VK} {o : Out} (h : GoodE g W m σ H Q o) : GoodC g m H Q (WE W σ) o := by
  cases o with
  | ok t S => exact h
  | ex c p S => exact h
theorem pe_ca {f : Nat} {es : IE} {e : Expr} {x : Str} {r : List Expr} (xo : XOk G g E W X) (hv : vCall e = some (x, r)) (hn : G.fname f = some x) (hg : glb G x = true) (hc : chkA G es r = true) (ha : PA X r (tA g W (evE E es))) : PE X e (tE g W (evE E (.call f es))) := by
  obtain ⟨p, q, a, es', rfl, rfl⟩ := vCall_eq hv
  obtain ⟨gl, db⟩ := glb_gl xo hg
  obtain ⟨k, fd, ps, F, hr, hm, hk, hb, hlen⟩ := xo.call f x hn
  obtain ⟨h1, h2⟩ := star_tail G X.env q hc
  refine (pe_callS F hr gl hm hk hb (fun σ => passAt xo.tk σ) ha db h1 h2).of fun σ H Q ⟨fb, m, ρ, S, o', rs, e, Gd⟩ => ?_
  simp only [evE] at e
  refine tA_of (k := fun l S1 => E.call f l S1) e rs Gd fun l S1 vs m1 H1 ek x rs1 rp Gd1 => ?_
  exact ⟨by rw [← rp.length]; exact hlen _ _ _ ek, fb, m1, S1, l, o', rp, rs1.sto, ek, goodC Gd1⟩

theorem boot_bl (b : Bl) : bootBuiltins b.nm = some b.val := by cases b <;> decide +kernel
theorem bltB_gl (xo : XOk G g E W X) {x : Str} (h : bltB G x = true) : Gl X x ∧ (x == ("__debug__" : Str)) = false ∧ X.mg x = none ∧ x ≠ "__name__" := by
  simp only [bltB, Bool.and_eq_true, Bool.not_eq_true'] at h
  obtain ⟨⟨h1, h2⟩, h3⟩ := h
  obtain ⟨gl, db⟩ := glb_gl xo h1
  refine ⟨gl, db, xo.blt x (by simpa using h2), fun z => ?_⟩
  rw [z] at h3
  simp at h3
theorem Bl.cases (b : Bl) : (∃ id, b.val = .builtin id) ∨ ∃ T, b.val = .type T := by
  cases b <;> first | exact .inl ⟨_, rfl⟩ | exact .inr ⟨_, rfl⟩
theorem pe_bl_ {bx : Bool} {b : Bl} {es : IE} {e : Expr} {x : Str} {r : List Expr} (xo : XOk G g E W X) (hv : vCall e = some (x, r)) (hn : b.nm = x) (hg : bltB G x = true) (hc : chkA G es r = true) (ha : PA X r (tA g W (evE E es))) : PE X e (tE g W (evE E (.blt bx b es))) := by
  obtain ⟨p, q, a, es', rfl, rfl⟩ := vCall_eq hv
  obtain ⟨gl, db, hm, nn⟩ := bltB_gl xo hg
  obtain ⟨h1, h2⟩ := star_tail G X.env q hc
  have hv : bootBuiltins x = some b.val := by rw [← hn]; exact boot_bl b
  have fin : ∀ σ H Q, tE g W (evE E (.blt bx b es)) σ H Q → tCB (rBlx g b) (tA g W (evE E es)) σ H Q := fun σ H Q ⟨fb, m, ρ, S, o', rs, e, Gd⟩ => by
    simp only [evE] at e
    refine tA_of (k := fun l S1 => lift bx (bltT S1 b l) S1) e rs Gd fun l S1 vs m1 H1 ek x rs1 rp Gd1 => ?_
    simp only [lift] at ek
    split at ek
    · rename_i z hz
      simp only [Option.some.injEq] at ek
      subst ek
      exact ⟨fb, W, m1, σ, S1, bx, l, z, rs1.sto, rp, hz, Gd1⟩
    · cases ek
  have hcall := call_bltx (X := X) xo.K xo.calm b
  rcases b.cases with ⟨id, hid⟩ | ⟨T, hT⟩
  · rw [hid] at hcall hv
    exact (pe_callB hcall gl hm hv ha nn db h1 h2).of fin
  · rw [hT] at hcall hv
    exact (pe_callTy hcall gl hm hv ha nn db h1 h2).of fin

theorem kit_all {a ty : String} (ha : a ∈ ["NoneType", "bool", "int", "str", "tuple", "list"]) (ht : ty ∈ ["int", "bool", "str", "tuple", "list"]) : kitB a ty = some (a == ty || (a == "bool" && ty == "int")) := by
  have h : ∀ a ∈ ["NoneType", "bool", "int", "str", "tuple", "list"], ∀ ty ∈ ["int", "bool", "str", "tuple", "list"], kitB a ty = some (a == ty || (a == "bool" && ty == "int")) := by decide +kernel
  exact h a ha ty ht
theorem boot_ty {ty : String} (ht : ty ∈ ["int", "bool", "str", "tuple", "list"]) : bootBuiltins (Str.ofString ty) = some (.type ty) := by
  have h : ∀ ty ∈ ["int", "bool", "str", "tuple", "list"], bootBuiltins (Str.ofString ty) = some (.type ty) := by decide +kernel
  exact h ty ht
theorem pe_is {a : IE} {ty : String} {e y z : Expr} {x w : Str} (xo : XOk G g E W X) (hv : vCall e = some (x, [y, z])) (hw : vName z = some w) (hx : x = "isinstance") (hwt : w = Str.ofString ty) (hg : bltB G x = true) (hg2 : bltB G w = true)
    (ht : ty ∈ ["int", "bool", "str", "tuple", "list"]) (ha : PE X y (tE g W (evE E a))) (hs : noStar y = true) : PE X e (tE g W (evE E (.isi a ty))) := by
  obtain ⟨p, q, a', es', rfl, hr⟩ := vCall_eq hv
  cases hr
  obtain ⟨p2, rfl⟩ := vName_eq hw
  obtain ⟨gl, db, hm, nn⟩ := bltB_gl xo hg
  obtain ⟨gl2, db2, hm2, nn2⟩ := bltB_gl xo hg2
  have hb : bootBuiltins x = some (.builtin "isinstance") := by rw [hx]; decide +kernel
  have hb2 : bootBuiltins w = some (.type ty) := by rw [hwt]; exact boot_ty ht
  have ha2 : PE X (.Name w p2) (tC (.ty ty)) := pe_bltn gl2 hm2 hb2 rfl nn2 db2
  refine (pe_callB call_isi gl hm hb (pa_cons ha (pa_cons ha2 pa_nil rfl) (starEach_cons hs)) nn db (starEach_cons hs) rfl).of fun σ H Q ⟨fb, m, ρ, S, o', rs, e, Gd⟩ => ?_
  simp only [evE] at e
  refine tE_bnd e rs Gd fun t S1 v m1 H1 e1 x1 rs1 r1 Gd1 => ?_
  simp only [liftB, isiT] at e1
  split at e1
  · rename_i b hb'
    simp only [Option.some.injEq] at e1
    subst e1
    split at hb'
    · rename_i ta hta
      simp only [Option.some.injEq] at hb'
      have k := kit_all (tys hta) ht
      rw [hb'] at k
      exact ⟨v, .ty ty, .type ta, .type ty, b, rfl, .ty ty, ty_of (g := g.w fb) xo.K rs1.sto r1 hta, kit_ty k, fin_val Gd1 rs1.sto Rep.bl_⟩
    · cases hb'
  · cases e1

/-! methods of texts -/
theorem vMth_eq {e o : Expr} {n : Str} {r : List Expr} (h : vMth e = some (o, n, r)) : ∃ ap pos, e = .Call (.Attribute o n ap) r [] pos ∧ (ap.endLine == pos.line) = true := by
  unfold vMth at h
  split at h
  · split at h
    · rename_i q
      simp only [Option.some.injEq, Prod.mk.injEq] at h
      obtain ⟨rfl, rfl, rfl⟩ := h
      exact ⟨_, _, rfl, q⟩
    · cases h
  · cases h
theorem nosup {o : Expr} {n : Str} {env : Env} {wh : Sem Value} (h : noSup o = true) : attributeBase o n env wh = wh := by
  cases o <;> first | rfl | cases h
theorem pe_m0_ {m : Mt} {a : IE} {e o : Expr} {n : Str} (xo : XOk G g E W X) (hv : vMth e = some (o, n, [])) (hn : m.nm = n) (h0 : is0 m = true) (hs : noSup o = true) (ha : PE X o (tE g W (evE E a))) : PE X e (tE g W (evE E (.mt0 m a))) := by
  obtain ⟨ap, pos, rfl, hl⟩ := vMth_eq hv
  subst hn
  cases m with
  | upper =>
    refine (pe_upper ha (nosup hs) hl).of fun σ H Q ⟨fb, m, ρ, S, o', rs, e, Gd⟩ => ?_
    simp only [evE] at e
    refine tE_bnd e rs Gd fun t S1 v m1 H1 e1 x1 rs1 r1 Gd1 => ?_
    simp only [lift] at e1
    split at e1
    · rename_i z hz
      simp only [Option.some.injEq] at e1
      subst e1
      cases t <;> simp only [mt0T] at hz <;> try (cases hz; done)
      rename_i s
      split at hz
      · rename_i hl
        simp only [Option.some.injEq] at hz
        subst hz
        have := RepD.str (RepD.of r1)
        exact ⟨⟨s, this⟩, s, this, rfl, hl, fin_val (t := .str _) Gd1 rs1.sto Rep.str_⟩
      · cases hz
    · cases e1
  | _ => cases h0
theorem star1 {e : Expr} {env : Env} (h : noStar e = true) : starEach [e] env = [(false, eval e env)] := starEach_cons h
theorem pe_m1_ {m : Mt} {a b : IE} {e o y : Expr} {n : Str} (xo : XOk G g E W X) (hv : vMth e = some (o, n, [y])) (hn : m.nm = n) (h0 : is0 m = false) (hs : noSup o = true) (hy : noStar y = true) (ha : PE X o (tE g W (evE E a))) (hb : PE X y (tE g W (evE E b))) : PE X e (tE g W (evE E (.mt1 m a b))) := by
  obtain ⟨ap, pos, rfl, hl⟩ := vMth_eq hv
  subst hn
  cases m with
  | upper => cases h0
  | split =>
    refine (pe_split ha hb (star1 hy) (nosup hs) hl).of fun σ H Q ⟨fb, m, ρ, S, o', rs, e, Gd⟩ => ?_
    simp only [evE] at e
    refine tE_bnd e rs Gd fun t S1 v m1 H1 e1 x1 rs1 r1 Gd1 => ?_
    cases t <;> simp only [strT] at e1 <;> try (cases e1; done)
    rename_i s
    have hs' := RepD.str (RepD.of r1)
    refine ⟨⟨s, hs'⟩, tE_bnd e1 rs1 Gd1 fun u S2 w m2 H2 e2 x2 rs2 r2 Gd2 => ?_⟩
    simp only [lift] at e2
    split at e2
    · rename_i z hz
      simp only [Option.some.injEq] at e2
      subst e2
      simp only [mt1T] at hz
      cases u <;> simp only at hz <;> try (cases hz; done)
      rename_i b'
      split at hz
      · rename_i hl
        simp only [Option.some.injEq] at hz
        subst hz
        rw [line_eq] at hl
        have := RepD.str (RepD.of r2)
        exact ⟨s, b', hs', by rw [this], hl.1, hl.2, fin_lst Gd2 rs2.sto (rep_of_strs _)⟩
      · cases hz
    · cases e2
  | join =>
    refine (pe_join ha hb (star1 hy) (nosup hs) hl).of fun σ H Q ⟨fb, m, ρ, S, o', rs, e, Gd⟩ => ?_
    simp only [evE] at e
    refine tE_bnd e rs Gd fun t S1 v m1 H1 e1 x1 rs1 r1 Gd1 => ?_
    cases t <;> simp only [strT] at e1 <;> try (cases e1; done)
    rename_i s
    have hs' := RepD.str (RepD.of r1)
    refine ⟨⟨s, hs'⟩, tE_bnd e1 rs1 Gd1 fun u S2 w m2 H2 e2 x2 rs2 r2 Gd2 => ?_⟩
    simp only [lift] at e2
    split at e2
    · rename_i z hz
      simp only [Option.some.injEq] at e2
      subst e2
      simp only [mt1T] at hz
      have rd := RepD.drf rs2.sto r2
      split at hz
      · rename_i l hl
        rw [hl] at rd
        obtain ⟨a', vs, rfl, q1, l1⟩ := RepD.lst rd
        split at hz
        · rename_i ys hys
          split at hz
          · rename_i hz'
            simp only [Option.some.injEq] at hz
            subst hz
            have := rep_strs l1 hys
            subst this
            exact ⟨s, a', ys, hs', rfl, .inl (SqL.of q1), hz', fin_val (t := .str _) Gd2 rs2.sto Rep.str_⟩
          · cases hz
        · cases hz
      · rename_i l hl
        rw [hl] at rd
        obtain ⟨a', vs, rfl, q1, l1⟩ := RepD.tup rd
        split at hz
        · rename_i ys hys
          split at hz
          · rename_i hz'
            simp only [Option.some.injEq] at hz
            subst hz
            have := rep_strs l1 hys
            subst this
            have q1 : SqT g.K H2 a' (ys.map V.str) := q1
            rw [← xo.K] at q1
            exact ⟨s, a', ys, hs', rfl, .inr q1, hz', fin_val (t := .str _) Gd2 rs2.sto Rep.str_⟩
          · cases hz
        · cases hz
      · cases hz
    · cases e2
end
end Fw

namespace Fw
open PySem L2 PyProof.Rows

section
variable {G : Gm} {g : GW} {E : EV} {W : WX} {X : Cx}

/-! ### targets -/
def Kept (tg : Tg) (σ σ' : L2.St) : Prop := ∀ vs : List Nat, (∀ i ∈ slots tg, i ∈ vs) → L2.wipe σ' vs = L2.wipe σ vs
theorem wipe_set : ∀ {vs : List Nat} {σ : L2.St} {i : Nat} {v : Option V}, i ∈ vs → L2.wipe (σ.set i v) vs = L2.wipe σ vs
  | [], _, _, _, h => by simp at h
  | w :: vs, σ, i, v, h => by
    show (L2.wipe (σ.set i v) vs).set w none = (L2.wipe σ vs).set w none
    by_cases hi : i ∈ vs
    · rw [wipe_set hi]
    · have e : i = w := by
        rcases List.mem_cons.mp h with e | e
        · exact e
        · exact absurd e hi
      subst e
      have : ∀ (vs : List Nat), i ∉ vs → ∀ σ : L2.St, L2.wipe (σ.set i v) vs = (L2.wipe σ vs).set i v := by
        intro vs
        induction vs with
        | nil => intro _ σ; rfl
        | cons x r ih =>
          intro hn σ
          simp only [List.mem_cons, not_or] at hn
          show (L2.wipe (σ.set i v) r).set x none = ((L2.wipe σ r).set x none).set i v
          rw [ih hn.2, List.set_comm _ _ hn.1]
      rw [this vs hi, List.set_set]

def tG (g : GW) (tg : Tg) : TG := fun v σ H Q => ∃ fb m t ρ ρ' S, RS (g.w fb) m σ H ρ S ∧ Rep (g.w fb) m H t v ∧ bindT tg t ρ = some ρ' ∧ ∀ σ', RS (g.w fb) m σ' H ρ' S → Kept tg σ σ' → Q σ' H
def tGs (g : GW) (tg : Tg) : TGs := fun vs σ H Q => ∃ fb m ts ρ ρ' S, RS (g.w fb) m σ H ρ S ∧ RepL (g.w fb) m H ts vs ∧ bindT tg (.tup ts) ρ = some ρ' ∧ ∀ σ', RS (g.w fb) m σ' H ρ' S → Kept tg σ σ' → Q σ' H
theorem _root_.L2.PG.of {X : Cx} {e : Expr} {t t' : TG} (h : PG X e t) (i : ∀ v σ H Q, t' v σ H Q → t v σ H Q) : PG X e t' := ⟨fun pins s σ H v u Q I r q => h.run pins s σ H v u Q I r (i v σ H Q q)⟩
theorem _root_.L2.PGs.of {X : Cx} {e : List Expr} {t t' : TGs} (h : PGs X e t) (i : ∀ v σ H Q, t' v σ H Q → t v σ H Q) : PGs X e t' := ⟨fun pins s σ H v u Q I r q => h.run pins s σ H v u Q I r (i v σ H Q q)⟩
def isTgt (e : Expr) : Bool := match e with
  | .Starred _ _ => false
  | _ => true
theorem assignEach_cons {e : Expr} {r : List Expr} {env : Env} (h : isTgt e = true) : assignEach (e :: r) env = (false, assign e env) :: assignEach r env := by
  cases e <;> first | rfl | cases h
theorem vTup_eq {e : Expr} {es : List Expr} (h : vTup e = some es) : ∃ k p, e = .Tuple es k p := by
  cases e <;> simp [vTup] at h
  subst h; exact ⟨_, _, rfl⟩
theorem vLst_eq {e : Expr} {es : List Expr} (h : vLst e = some es) : ∃ p, e = .List es p := by
  cases e <;> simp [vLst] at h
  subst h; exact ⟨_, rfl⟩
theorem chkT_tgt {tg : Tg} {e : Expr} (h : chkT G tg e = true) : isTgt e = true := by
  cases tg with
  | nm i =>
    simp only [chkT] at h
    split at h
    · rename_i x q
      obtain ⟨p, rfl⟩ := vName_eq q
      rfl
    · cases h
  | tp a =>
    simp only [chkT] at h
    split at h
    · rename_i x q
      obtain ⟨k, p, rfl⟩ := vTup_eq q
      rfl
    · cases h
  | nl => simp [chkT] at h
  | cn a b => simp [chkT] at h
theorem chkTs_each : ∀ (es : List Expr) {tg : Tg} {env : Env}, chkT.chkTs G tg es = true → (assignEach es env).length = es.length ∧ (assignEach es env).findIdx? (·.1) = none
  | [], tg, env, h => ⟨rfl, rfl⟩
  | e :: r, tg, env, h => by
    cases tg with
    | cn a b =>
      simp only [chkT.chkTs, Bool.and_eq_true] at h
      obtain ⟨h1, h2⟩ := chkTs_each r (env := env) h.2
      rw [assignEach_cons (chkT_tgt h.1)]
      refine ⟨by simp [h1], ?_⟩
      rw [List.findIdx?_cons]
      simp [h2]
    | nl => simp [chkT.chkTs] at h
    | nm i => simp [chkT.chkTs] at h
    | tp a => simp [chkT.chkTs] at h

theorem bindT_nm {i : Nat} {t : T} {ρ ρ' : Rho} (h : bindT (.nm i) t ρ = some ρ') : ρ' = ρ.set i (some t) := by
  simp only [bindT, Option.some.injEq] at h
  exact h.symm
theorem bindT_tp {a : Tg} {t : T} {ρ ρ' : Rho} (h : bindT (.tp a) t ρ = some ρ') : ∃ l, t = .tup l ∧ bindT a (.tup l) ρ = some ρ' := by
  cases t <;> simp only [bindT] at h <;> first | exact ⟨_, rfl, h⟩ | cases h
theorem bindT_nl {ts : List T} {ρ ρ' : Rho} (h : bindT .nl (.tup ts) ρ = some ρ') : ts = [] ∧ ρ' = ρ := by
  cases ts with
  | nil => simp only [bindT, Option.some.injEq] at h; exact ⟨rfl, h.symm⟩
  | cons a r => simp [bindT] at h
theorem bindT_cn {a b : Tg} {ts : List T} {ρ ρ' : Rho} (h : bindT (.cn a b) (.tup ts) ρ = some ρ') : ∃ x xs ρ1, ts = x :: xs ∧ bindT a x ρ = some ρ1 ∧ bindT b (.tup xs) ρ1 = some ρ' := by
  cases ts with
  | nil => simp [bindT] at h
  | cons x xs =>
    simp only [bindT] at h
    split at h
    · rename_i ρ1 h1
      exact ⟨x, xs, ρ1, rfl, h1, h⟩
    · cases h
theorem bindT_len : ∀ (b : Tg) (ts : List T) (es : List Expr) {ρ ρ' : Rho}, chkT.chkTs G b es = true → bindT b (.tup ts) ρ = some ρ' → ts.length = es.length
  | .nl, ts, es, ρ, ρ', hc, h => by
    obtain ⟨rfl, _⟩ := bindT_nl h
    simp only [chkT.chkTs, List.isEmpty_iff] at hc
    rw [hc]
    rfl
  | .cn a b, ts, es, ρ, ρ', hc, h => by
    obtain ⟨x, xs, ρ1, rfl, h1, h2⟩ := bindT_cn h
    cases es with
    | nil => simp [chkT.chkTs] at hc
    | cons e r =>
      simp only [chkT.chkTs, Bool.and_eq_true] at hc
      simp [bindT_len b xs r hc.2 h2]
  | .nm i, ts, es, ρ, ρ', hc, h => by simp [chkT.chkTs] at hc
  | .tp a, ts, es, ρ, ρ', hc, h => by simp [chkT.chkTs] at hc

theorem pg_sound (hN : X.N = G.N) (nd : G.N.Nodup) (sc : X.env.scope = G.sc) (calm : X.calm = true) (hK : X.K = g.K) (fn : G.fnT = true → ∀ x, X.fn x = true) : ∀ tg : Tg, (∀ e, chkT G tg e = true → PG X e (tG g tg)) ∧ (∀ es, chkT.chkTs G tg es = true → PGs X es (tGs g tg)) := by
  intro tg
  induction tg with
  | nm i =>
    refine ⟨fun e h => ?_, fun es h => by simp [chkT.chkTs] at h⟩
    simp only [chkT] at h
    split at h
    · rename_i x q
      obtain ⟨p, rfl⟩ := vName_eq q
      simp only [Bool.and_eq_true, decide_eq_true_eq, isKind, Bool.or_eq_true] at h
      obtain ⟨h1, h2⟩ := h
      rw [← hN] at h1
      rw [← sc] at h2
      have hl : Loc X.env.scope x := by
        rcases h2 with h2 | h2
        · exact .inl h2
        · exact .inr h2.1
      have hf : X.fn x = true ∨ X.env.scope.names.lookup x = some .local := by
        rcases h2 with h2 | h2
        · exact .inr h2
        · exact .inl (fn h2.2 x)
      refine (pg_name (i := i) (by rw [hN]; exact nd) h1 hl hf).of fun v σ H Q ⟨fb, m, t, ρ, ρ', S, rs, r, eb, k⟩ => ?_
      cases bindT_nm eb
      exact k _ ⟨rs.env.set i r, rs.sto⟩ fun vs hv => wipe_set (hv i (by simp [slots]))
    · cases h
  | nl =>
    refine ⟨fun e h => by simp [chkT] at h, fun es h => ?_⟩
    simp only [chkT.chkTs, List.isEmpty_iff] at h
    subst h
    refine pgs_nil.of fun vs σ H Q ⟨fb, m, ts, ρ, ρ', S, rs, r, eb, k⟩ => ?_
    obtain ⟨rfl, rfl⟩ := bindT_nl eb
    simp only [RepL] at r
    exact ⟨r, k σ rs fun _ _ => rfl⟩
  | cn a b iha ihb =>
    refine ⟨fun e h => by simp [chkT] at h, fun es h => ?_⟩
    cases es with
    | nil => simp [chkT.chkTs] at h
    | cons e r =>
      simp only [chkT.chkTs, Bool.and_eq_true] at h
      refine (pgs_cons (iha.1 e h.1) (ihb.2 r h.2) (by rw [assignEach_cons (chkT_tgt h.1)]; rfl)).of fun vs σ H Q ⟨fb, m, ts, ρ, ρ', S, rs, rp, eb, k⟩ => ?_
      obtain ⟨x, xs, ρ1, rfl, h1, h2⟩ := bindT_cn eb
      simp only [RepL] at rp
      obtain ⟨v, vr, rfl, r1, r2⟩ := rp
      refine ⟨v, vr, rfl, fb, m, x, ρ, ρ1, S, rs, r1, h1, fun σ1 rs1 k1 => ?_⟩
      refine ⟨fb, m, xs, ρ1, ρ', S, rs1, r2, h2, fun σ2 rs2 k2 => k σ2 rs2 fun vs hv => ?_⟩
      rw [k2 vs fun i hi => hv i (by simp [slots, hi]), k1 vs fun i hi => hv i (by simp [slots, hi])]
  | tp a iha =>
    refine ⟨fun e h => ?_, fun es h => by simp [chkT.chkTs] at h⟩
    simp only [chkT] at h
    split at h
    · rename_i es q
      obtain ⟨kk, p, rfl⟩ := vTup_eq q
      obtain ⟨h1, h2⟩ := chkTs_each es (env := X.env) h
      refine (pg_tup (n := es.length) calm (iha.2 es h) h1 h2).of fun v σ H Q ⟨fb, m, t, ρ, ρ', S, rs, r, eb, k⟩ => ?_
      obtain ⟨l, rfl, eb'⟩ := bindT_tp eb
      obtain ⟨a', vs, rfl, q1, l1⟩ := RepD.tup (RepD.of r)
      have q1 : SqT g.K H a' vs := q1
      rw [← hK] at q1
      exact ⟨a', vs, rfl, q1, by rw [← l1.length]; exact bindT_len a l es h eb', fb, m, l, ρ, ρ', S, rs, l1, eb', fun σ' rs' k' => k σ' rs' k'⟩
    · cases h

/-! ### trees in another heap, with other lists under way -/
theorem RepL.imp {g g' : GW} {m m' : List Addr} {H H' : Hp} : ∀ {ts : List T} {vs : List V}, (∀ t ∈ ts, ∀ v, Rep g m H t v → Rep g' m' H' t v) → RepL g m H ts vs → RepL g' m' H' ts vs
  | [], vs, f, h => by simpa only [RepL] using h
  | t :: ts, vs, f, h => by
    simp only [RepL] at h ⊢
    obtain ⟨v, r, h1, h2, h3⟩ := h
    exact ⟨v, r, h1, f t List.mem_cons_self v h2, RepL.imp (fun u hu => f u (List.mem_cons_of_mem _ hu)) h3⟩
mutual
theorem Rep.step {g : GW} {fb' m m' : List Addr} {H H' : Hp} (hg : ∀ (n : Nat) (a : Addr), m[n]? = some a → m'[n]? = some a) (hk : ∀ a o, H a = some o → a ∉ m → a ∉ g.fb → H' a = some o ∧ a ∉ m' ∧ a ∉ fb') : ∀ (t : T) {v : V}, Rep g m H t v → Rep (g.w fb') m' H' t v
  | .non, v, h => by simpa only [Rep] using h
  | .bl b, v, h => by simpa only [Rep] using h
  | .int i, v, h => by simpa only [Rep] using h
  | .str s, v, h => by simpa only [Rep] using h
  | .fn f, v, h => by simp only [Rep] at h ⊢; exact h
  | .box n, v, h => by
    simp only [Rep] at h ⊢
    obtain ⟨a, h1, h2⟩ := h
    exact ⟨a, hg _ _ h1, h2⟩
  | .scr ns, v, h => by
    simp only [Rep] at h ⊢
    obtain ⟨a, h1, h2⟩ := h
    refine ⟨a, h1, ?_⟩
    rcases h2 with ⟨q, q', r⟩ | h2
    · rcases r with r | ⟨o, r⟩
      · obtain ⟨z1, z2, z3⟩ := hk a _ r q q'
        exact .inl ⟨z2, z3, .inl z1⟩
      · obtain ⟨z1, z2, z3⟩ := hk a _ r q q'
        exact .inl ⟨z2, z3, .inr ⟨o, z1⟩⟩
    · exact .inr h2
  | .tup l, v, h => by
    simp only [Rep] at h ⊢
    obtain ⟨a, vs, h1, h2, h3⟩ := h
    refine ⟨a, vs, h1, ?_, RepL.step hg hk l h3⟩
    rcases h2 with ⟨q, q', r⟩ | h2
    · rcases r with r | ⟨o, r⟩
      · obtain ⟨z1, z2, z3⟩ := hk a _ r q q'
        exact .inl ⟨z2, z3, .inl z1⟩
      · obtain ⟨z1, z2, z3⟩ := hk a _ r q q'
        exact .inl ⟨z2, z3, .inr ⟨o, z1⟩⟩
    · exact .inr h2
  | .lst l, v, h => by
    simp only [Rep] at h ⊢
    obtain ⟨a, vs, h1, q, q', r, h4⟩ := h
    obtain ⟨z1, z2, z3⟩ := hk a _ r q q'
    exact ⟨a, vs, h1, z2, z3, z1, RepL.step hg hk l h4⟩
theorem RepL.step {g : GW} {fb' m m' : List Addr} {H H' : Hp} (hg : ∀ (n : Nat) (a : Addr), m[n]? = some a → m'[n]? = some a) (hk : ∀ a o, H a = some o → a ∉ m → a ∉ g.fb → H' a = some o ∧ a ∉ m' ∧ a ∉ fb') : ∀ (ts : List T) {vs : List V}, RepL g m H ts vs → RepL (g.w fb') m' H' ts vs
  | [], vs, h => by simpa only [RepL] using h
  | t :: ts, vs, h => by
    simp only [RepL] at h ⊢
    obtain ⟨v, r, h1, h2, h3⟩ := h
    exact ⟨v, r, h1, Rep.step hg hk t h2, RepL.step hg hk ts h3⟩
end
theorem Rep.grow {g : GW} {fb' m m' : List Addr} {H H' : Hp} (e : Ext m H m' H') (hf : ∀ a ∈ fb', a ∈ g.fb ∨ H a = none) {t : T} {v : V} (h : Rep g m H t v) : Rep (g.w fb') m' H' t v :=
  Rep.step (fun _ _ q => e.get q) (fun a o q n f => ⟨e.keep a o q n, e.notin q n, fun z => by
    rcases hf a z with z | z
    · exact f z
    · rw [q] at z; cases z⟩) t h
theorem ObR.step {g : GW} {fb' m m' : List Addr} {H H' : Hp} {ob : Ob} {a : Addr} (hg : ∀ (n : Nat) (a : Addr), m[n]? = some a → m'[n]? = some a) (hk : ∀ a o, H a = some o → a ∉ m → a ∉ g.fb → H' a = some o ∧ a ∉ m' ∧ a ∉ fb') (h : ObR g m H ob a) (k : H' a = H a) : ObR (g.w fb') m' H' ob a := by
  cases ob with
  | lst l => obtain ⟨vs, e1, r⟩ := h; exact ⟨vs, by rw [k]; exact e1, RepL.step hg hk l r⟩
  | dct _ => exact h.elim
  | ins _ _ => exact h.elim

/-! ### what is walked -/
/-- J walks the items l, whatever comes between the turns -/
structure Wk (g : GW) (m : List Addr) (H : Hp) (l : List T) (J : It) : Prop where
  ex : ∃ (GG : Hp → Prop) (Y : Nat → Hp → V → Hp → Prop), Walk J l.length GG Y ∧ (∀ m1 H1, Ext m H m1 H1 → GG H1) ∧
    ∀ i fb' m1 H1 x H2, i < l.length → Ext m H m1 H1 → (∀ a ∈ fb', a ∈ g.fb ∨ H a = none) → (∀ a, H1 a = none → a ∉ m1 ∧ a ∉ fb') → Y i H1 x H2 → ∃ t, l[i]? = some t ∧ Rep (g.w fb') m1 H2 t x ∧ (H2 = H1 ∨ ∃ p o, H1 p = none ∧ H2 = upd H1 p o)
theorem wk_list {m : List Addr} {H : Hp} {l : List T} {a : Addr} {vs : List V} {K : PySem.W.Frag} (ha : a ∉ m) (hh : H a = some (.lst vs)) (r : RepL g m H l vs) : Wk g m H l (Itl K a) := by
  refine ⟨fun H => SqL K H a vs, YAt vs, by rw [r.length]; exact walk_list, fun m1 H1 x => SqL.of (x.keep _ _ hh ha), fun i fb' m1 H1 x H2 hlt e hfb hf y => ?_⟩
  obtain ⟨rfl, hx⟩ := y
  have hi : i < l.length := by rw [r.length]; exact (List.getElem?_eq_some_iff.mp hx).1
  obtain ⟨v, h1, h2⟩ := r.get (List.getElem?_eq_getElem hi)
  rw [hx] at h1; cases h1
  exact ⟨l[i], List.getElem?_eq_getElem hi, Rep.grow e hfb h2, .inl rfl⟩
theorem wk_tup {m : List Addr} {H : Hp} {l : List T} {a : Addr} {vs : List V} (hh : (a ∉ m ∧ Rd H a (.tup vs)) ∨ KTup g.K a vs) (r : RepL g m H l vs) : Wk g m H l (Itt g.K a) := by
  refine ⟨fun H => SqT g.K H a vs, YAt vs, by rw [r.length]; exact walk_tup, fun m1 H1 x => ?_, fun i fb' m1 H1 x H2 hlt e hfb hf y => ?_⟩
  · rcases hh with ⟨h1, h2⟩ | h2
    · exact .inl (Rd.ext x h2 h1).2
    · exact .inr h2
  obtain ⟨rfl, hx⟩ := y
  have hi : i < l.length := by rw [r.length]; exact (List.getElem?_eq_some_iff.mp hx).1
  obtain ⟨v, h1, h2⟩ := r.get (List.getElem?_eq_getElem hi)
  rw [hx] at h1; cases h1
  exact ⟨l[i], List.getElem?_eq_getElem hi, Rep.grow e hfb h2, .inl rfl⟩
theorem wk_rng {m : List Addr} {H : Hp} {lo : Int} {n : Nat} : Wk g m H (rngT lo n) (Itr lo n) := by
  refine ⟨fun _ => True, YFn fun i => .int (lo + i), by simpa [rngT] using walk_range, fun _ _ _ => trivial, fun i fb' m1 H1 x H2 hlt e hfb hf y => ?_⟩
  obtain ⟨rfl, rfl⟩ := y
  have hn : i < n := by simpa [rngT] using hlt
  exact ⟨.int (lo + (i : Nat)), by simp [rngT, hn], Rep.int_, .inl rfl⟩
theorem zipT_get : ∀ (xs ys : List T) (i : Nat), (zipT xs ys)[i]? = match xs[i]?, ys[i]? with | some x, some y => some (T.tup [x, y]) | _, _ => none
  | [], ys, i => by simp [zipT]
  | x :: xs, [], i => by
    simp only [zipT]
    cases (x :: xs)[i]? <;> simp
  | x :: xs, y :: ys, 0 => by simp [zipT]
  | x :: xs, y :: ys, i + 1 => by simpa [zipT] using zipT_get xs ys i
theorem zipT_len : ∀ (xs ys : List T), (zipT xs ys).length = min xs.length ys.length
  | [], ys => by simp [zipT]
  | x :: xs, [] => by simp [zipT]
  | x :: xs, y :: ys => by simp [zipT, zipT_len xs ys]
theorem rep_pair {g : GW} {m : List Addr} {H : Hp} {p : Addr} {x y : V} {t u : T} (hp : H p = none) (hf : ∀ a, H a = none → a ∉ m ∧ a ∉ g.fb) (r : Rep g m H t x) (q : Rep g m H u y) : Rep g m (upd H p (.tup [x, y])) (.tup [t, u]) (.ref p) := by
  simp only [Rep]
  obtain ⟨h1, h2⟩ := hf p hp
  exact ⟨p, [x, y], rfl, .inl ⟨h1, h2, .inl upd_same⟩, RepL.cons (Rep.mono (Ext.new hp) _ r) (RepL.cons (Rep.mono (Ext.new hp) _ q) RepL.nil)⟩
theorem wk_zipL {m : List Addr} {H : Hp} {l k : List T} {a b : Addr} {vs ws : List V} {K : PySem.W.Frag} (ha : a ∉ m) (hh : H a = some (.lst vs)) (r : RepL g m H l vs) (hb : b ∉ m) (hh2 : H b = some (.lst ws)) (r2 : RepL g m H k ws) : Wk g m H (zipT l k) (Itz K a b) := by
  refine ⟨fun H => SqL K H a vs ∧ SqL K H b ws, YPair (fun i => vs[i]?) (fun i => ws[i]?), by rw [zipT_len, r.length, r2.length]; exact walk_zip rfl, fun m1 H1 x => ⟨SqL.of (x.keep _ _ hh ha), SqL.of (x.keep _ _ hh2 hb)⟩, fun i fb' m1 H1 x H2 hlt e hfb hf y => ?_⟩
  obtain ⟨T', x', y', rfl, h0, rfl, h1, h2⟩ := y
  have h1 : vs[i]? = some x' := h1
  have h2 : ws[i]? = some y' := h2
  have hi : i < vs.length := (List.getElem?_eq_some_iff.mp h1).1
  have hj : i < ws.length := (List.getElem?_eq_some_iff.mp h2).1
  rw [← r.length] at hi
  rw [← r2.length] at hj
  obtain ⟨v, e1, q1⟩ := r.get (List.getElem?_eq_getElem hi)
  obtain ⟨w, e2, q2⟩ := r2.get (List.getElem?_eq_getElem hj)
  rw [h1] at e1; cases e1
  rw [h2] at e2; cases e2
  exact ⟨.tup [l[i], k[i]], by rw [zipT_get, List.getElem?_eq_getElem hi, List.getElem?_eq_getElem hj], rep_pair (g := g.w fb') h0 hf (Rep.grow e hfb q1) (Rep.grow e hfb q2), .inr ⟨T', _, h0, rfl⟩⟩
theorem walk_zipT {K : PySem.W.Frag} {a b : Addr} {xs ys : List V} {n : Nat} (hn : n = min xs.length ys.length) : Walk (RZ.ItzT K a b) n (fun H => SqT K H a xs ∧ SqT K H b ys) (YPair (fun i => xs[i]?) (fun i => ys[i]?)) := by
  subst hn
  refine ⟨fun i _ hi q => ?_, fun _ q => ⟨xs, ys, q.1, q.2, by omega⟩, fun i H v H' _ q y => ?_⟩
  · have h1 : i < xs.length := by omega
    have h2 : i < ys.length := by omega
    exact ⟨xs, ys, xs[i], ys[i], q.1, q.2, by simp [h1], by simp [h2]⟩
  · obtain ⟨T, x, z, h1, h2, h3, h4, h5⟩ := y
    exact ⟨T, x, z, h1, h2, h3, h4 xs q.1, h5 ys q.2⟩
theorem wk_zipT {m : List Addr} {H : Hp} {l k : List T} {a b : Addr} {vs ws : List V} (hh : (a ∉ m ∧ Rd H a (.tup vs)) ∨ KTup g.K a vs) (r : RepL g m H l vs) (hh2 : (b ∉ m ∧ Rd H b (.tup ws)) ∨ KTup g.K b ws) (r2 : RepL g m H k ws) : Wk g m H (zipT l k) (RZ.ItzT g.K a b) := by
  have st : ∀ {c : Addr} {us : List V} {m1 : List Addr} {H1 : Hp}, (c ∉ m ∧ Rd H c (.tup us)) ∨ KTup g.K c us → Ext m H m1 H1 → SqT g.K H1 c us := fun {c us m1 H1} hh x => by
    rcases hh with ⟨h1, h2⟩ | h2
    · exact .inl (Rd.ext x h2 h1).2
    · exact .inr h2
  refine ⟨fun H => SqT g.K H a vs ∧ SqT g.K H b ws, YPair (fun i => vs[i]?) (fun i => ws[i]?), by rw [zipT_len, r.length, r2.length]; exact walk_zipT rfl, fun m1 H1 x => ⟨st hh x, st hh2 x⟩, fun i fb' m1 H1 x H2 hlt e hfb hf y => ?_⟩
  obtain ⟨T', x', y', rfl, h0, rfl, h1, h2⟩ := y
  have h1 : vs[i]? = some x' := h1
  have h2 : ws[i]? = some y' := h2
  have hi : i < vs.length := (List.getElem?_eq_some_iff.mp h1).1
  have hj : i < ws.length := (List.getElem?_eq_some_iff.mp h2).1
  rw [← r.length] at hi
  rw [← r2.length] at hj
  obtain ⟨v, e1, q1⟩ := r.get (List.getElem?_eq_getElem hi)
  obtain ⟨w, e2, q2⟩ := r2.get (List.getElem?_eq_getElem hj)
  rw [h1] at e1; cases e1
  rw [h2] at e2; cases e2
  exact ⟨.tup [l[i], k[i]], by rw [zipT_get, List.getElem?_eq_getElem hi, List.getElem?_eq_getElem hj], rep_pair (g := g.w fb') h0 hf (Rep.grow e hfb q1) (Rep.grow e hfb q2), .inr ⟨T', _, h0, rfl⟩⟩
theorem enuT_len : ∀ (l : List T) (k : Nat), (enuT k l).length = l.length
  | [], k => rfl
  | x :: l, k => by simp [enuT, enuT_len l (k + 1)]
theorem enuT_get : ∀ (l : List T) (k i : Nat), (enuT k l)[i]? = match l[i]? with | some x => some (T.tup [.int ((k + i : Nat) : Int), x]) | none => none
  | [], k, i => by simp [enuT]
  | x :: l, k, 0 => by simp [enuT]
  | x :: l, k, i + 1 => by
    have := enuT_get l (k + 1) i
    simp only [enuT, List.getElem?_cons_succ]
    rw [this, show k + 1 + i = k + (i + 1) by omega]
theorem wk_enu {m : List Addr} {H : Hp} {l : List T} {a : Addr} {vs : List V} {K : PySem.W.Frag} (ha : a ∉ m) (hh : H a = some (.lst vs)) (r : RepL g m H l vs) : Wk g m H (enuT 0 l) (Ite K a) := by
  refine ⟨fun H => SqL K H a vs, YPair (fun i => some (.int (i : Nat))) (fun i => vs[i]?), by rw [enuT_len, r.length]; exact walk_enum, fun m1 H1 x => SqL.of (x.keep _ _ hh ha), fun i fb' m1 H1 x H2 hlt e hfb hf y => ?_⟩
  obtain ⟨T', x', y', rfl, h0, rfl, h1, h2⟩ := y
  have h1 : some (V.int (i : Nat)) = some x' := h1
  cases h1
  have h2 : vs[i]? = some y' := h2
  have hi : i < vs.length := (List.getElem?_eq_some_iff.mp h2).1
  rw [← r.length] at hi
  obtain ⟨v, e1, q1⟩ := r.get (List.getElem?_eq_getElem hi)
  rw [h2] at e1; cases e1
  exact ⟨.tup [.int (i : Nat), l[i]], by rw [enuT_get, List.getElem?_eq_getElem hi]; simp, rep_pair (g := g.w fb') h0 hf Rep.int_ (Rep.grow e hfb q1), .inr ⟨T', _, h0, rfl⟩⟩

def GoodI (g : GW) (W : WX) (m : List Addr) (σ : L2.St) (H : Hp) (R : It → Hp → Prop) : Out → Prop
  | .ok (.tup l) S' => ∀ J m' H', Ext m H m' H' → SRep g m' H' S' → Wk g m' H' l J → R J H'
  | .ok _ _ => False
  | .ex c p S' => ∀ cls d m' H', Ext m H m' H' → SRep g m' H' S' → XRep g H' c p cls d → W cls d σ H'
def tI (g : GW) (W : WX) (f : Rho → Sto → Res) : TI := fun σ H R => ∃ fb m ρ S o, RS (g.w fb) m σ H ρ S ∧ f ρ S = some o ∧ GoodI (g.w fb) W m σ H R o

/-- a list, a tuple, as it comes -/
def iSeq (K : PySem.W.Frag) (tl : TE) : TI := fun σ H R => tl σ H fun x H1 => (∃ a xs, x = .ref a ∧ SqL K H1 a xs ∧ R (Itl K a) H1) ∨ ∃ a xs, x = .ref a ∧ SqT K H1 a xs ∧ R (Itt K a) H1
theorem pi_seq {tg l : Expr} {tl : TE} (hl : PE X l tl) : PI X tg l (iSeq X.K tl) := by
  refine ⟨fun pins s σ H R I h => ?_⟩
  refine thn (hl.run pins s σ H _ I h) fun v s1 ⟨x, H1, I1, r1, q1⟩ => ?_
  have fp : ∀ b ∈ [s1.heap.objs.size], FpOk X pins H1 b := fun b hb => by
    have e : b = s1.heap.objs.size := by simpa using hb
    subst e
    exact I1.fpOk (Nat.le_refl _) (I1.hok.fresh (Nat.le_refl _))
  rcases q1 with ⟨a, xs, e, hq, q⟩ | ⟨a, xs, e, hq, q⟩
  · subst e
    cases r1
    obtain ⟨its, rv, p, hz⟩ := I1.list hq
    refine wpAny_pyIter_list p.isList ?_
    exact ⟨s1.heap.objs.size, [s1.heap.objs.size], _, _, H1, rfl, I1.kept (t' := s1.toks) fun b o e => Heap.get?_push_of_some _ e, turn_list a _, ⟨_, Heap.get?_push_size _ rfl, rfl, rfl⟩, fp, q⟩
  · subst e
    cases r1
    obtain ⟨its, rv, p, hz⟩ := I1.tuple hq
    refine wpAny_pyIter_tuple (show s1.heap.IsTuple a its.toArray from p) ?_
    exact ⟨s1.heap.objs.size, [s1.heap.objs.size], _, _, H1, rfl, I1.kept (t' := s1.toks) fun b o e => Heap.get?_push_of_some _ e, turn_tuple a _, ⟨_, Heap.get?_push_size _ rfl, rfl, rfl⟩, fp, q⟩

/-- the first part of what is walked -/
theorem tI_bnd {fb : List Addr} {f : Rho → Sto → Res} {k : T → Sto → Res} {m : List Addr} {σ : L2.St} {H : Hp} {ρ : Rho} {S : Sto} {o : Out} {R : It → Hp → Prop} {Q' : VK}
    (h : bnd (f ρ S) k = some o) (rs : RS (g.w fb) m σ H ρ S) (Gd : GoodI (g.w fb) W m σ H R o)
    (hk : ∀ t S1 v m1 H1, k t S1 = some o → Ext m H m1 H1 → RS (g.w fb) m1 σ H1 ρ S1 → Rep (g.w fb) m1 H1 t v → GoodI (g.w fb) W m1 σ H1 R o → Q' v H1) : tE g W f σ H Q' := by
  cases e : f ρ S with
  | none => rw [e] at h; cases h
  | some r =>
    rw [e] at h
    refine ⟨fb, m, ρ, S, r, rs, e, ?_⟩
    cases r with
    | ok t S1 =>
      intro v m1 H1 x sr rp
      refine hk t S1 v m1 H1 h x ⟨rs.env.mono x, sr⟩ rp ?_
      cases o with
      | ok u S2 => cases u <;> first | exact Gd | exact fun J m2 H2 x2 => Gd J m2 H2 (x.trans x2)
      | ex c p S2 => exact fun cls d m2 H2 x2 => Gd cls d m2 H2 (x.trans x2)
    | ex c p S1 =>
      have : o = .ex c p S1 := (Option.some.inj h).symm
      subst this
      exact Gd
theorem pi_sq {a : IE} {tg e : Expr} (xo : XOk G g E W X) (ha : PE X e (tE g W (evE E a))) : PI X tg e (tI g W (evE E (.sq a))) := by
  refine (pi_seq ha).of fun σ H R ⟨fb, m, ρ, S, o, rs, e, Gd⟩ => ?_
  simp only [evE] at e
  refine tI_bnd e rs Gd fun t S1 v m1 H1 e1 x1 rs1 r1 Gd1 => ?_
  split at e1
  · rename_i l hl
    simp only [Option.some.injEq] at e1
    subst e1
    cases t <;> simp only [seqT] at hl <;> try (cases hl; done)
    · rename_i l'
      simp only [Option.some.injEq] at hl
      subst hl
      have r1' := r1
      simp only [Rep] at r1'
      obtain ⟨a', vs, rfl, h2, h3⟩ := r1'
      obtain ⟨a2, vs2, e2, q1, l1⟩ := RepD.tup (RepD.of r1)
      have hh : (a' ∉ m1 ∧ Rd H1 a' (.tup vs)) ∨ KTup (g.w fb).K a' vs := by
        rcases h2 with ⟨h2, _, h4⟩ | h2
        · exact .inl ⟨h2, h4⟩
        · exact .inr h2
      have sq : SqT g.K H1 a' vs := by
        rcases hh with ⟨_, h4⟩ | h2
        · exact .inl h4
        · exact .inr h2
      rw [← xo.K] at sq
      refine .inr ⟨a', vs, rfl, sq, ?_⟩
      rw [xo.K]
      exact Gd1 _ m1 H1 (Ext.refl _ _) rs1.sto (wk_tup (g := g.w fb) hh h3)
    · rename_i l'
      simp only [Option.some.injEq] at hl
      subst hl
      simp only [Rep] at r1
      obtain ⟨a', vs, rfl, h2, _, h3, h4⟩ := r1
      exact .inl ⟨a', vs, rfl, SqL.of h3, Gd1 _ m1 H1 (Ext.refl _ _) rs1.sto (wk_list h2 h3 h4)⟩
  · cases e1
end
end Fw

namespace Fw
open PySem L2 PyProof.Rows

section
variable {G : Gm} {g : GW} {E : EV} {W : WX} {X : Cx}

theorem goodI_ext {m m1 : List Addr} {σ : L2.St} {H H1 : Hp} {R : It → Hp → Prop} {o : Out} (Gd : GoodI g W m σ H R o) (x : Ext m H m1 H1) : GoodI g W m1 σ H1 R o := by
  cases o with
  | ok u S2 => cases u <;> first | exact Gd | exact fun J m2 H2 x2 => Gd J m2 H2 (x.trans x2)
  | ex c p S2 => exact fun cls d m2 H2 x2 => Gd cls d m2 H2 (x.trans x2)

theorem pi_r1 {a : IE} {tg e y : Expr} {x : Str} (xo : XOk G g E W X) (hv : vCall e = some (x, [y])) (hx : x = "range") (hg : bltB G x = true) (ha : PE X y (tE g W (evE E a))) (hs : noStar y = true) : PI X tg e (tI g W (evE E (.rg1 a))) := by
  obtain ⟨p, q, a', es', rfl, hr⟩ := vCall_eq hv
  cases hr
  subst hx
  obtain ⟨gl, db, hm, nn⟩ := bltB_gl xo hg
  refine (pi_range1 gl hm (pa_cons ha pa_nil (starEach_cons hs)) (star1 hs)).of fun σ H R ⟨fb, m, ρ, S, o, rs, e, Gd⟩ => ?_
  simp only [evE] at e
  refine tI_bnd e rs Gd fun t S1 v m1 H1 e1 x1 rs1 r1 Gd1 => ?_
  cases t <;> simp only at e1 <;> try (cases e1; done)
  rename_i j
  split at e1
  · rename_i hj
    simp only [Option.some.injEq] at e1
    subst e1
    simp only [okR, Bool.and_eq_true, decide_eq_true_eq] at hj
    exact ⟨j, by rw [RepD.int (RepD.of r1)], hj.1, hj.2, Gd1 _ m1 H1 (Ext.refl _ _) rs1.sto wk_rng⟩
  · cases e1
theorem pi_r2 {a b : IE} {tg e y z : Expr} {x : Str} (xo : XOk G g E W X) (hv : vCall e = some (x, [y, z])) (hx : x = "range") (hg : bltB G x = true) (ha : PE X y (tE g W (evE E a))) (hb : PE X z (tE g W (evE E b))) (hs : noStar y = true) (hs2 : noStar z = true) :
    PI X tg e (tI g W (evE E (.rg2 a b))) := by
  obtain ⟨p, q, a', es', rfl, hr⟩ := vCall_eq hv
  cases hr
  subst hx
  obtain ⟨gl, db, hm, nn⟩ := bltB_gl xo hg
  refine (pi_range2 gl hm (pa_cons ha (pa_cons hb pa_nil (starEach_cons hs2)) (starEach_cons hs)) (by rw [starEach_cons hs, starEach_cons hs2]; rfl) (star1 hs2)).of fun σ H R ⟨fb, m, ρ, S, o, rs, e, Gd⟩ => ?_
  simp only [evE] at e
  refine tI_bnd e rs Gd fun t S1 v m1 H1 e1 x1 rs1 r1 Gd1 => ?_
  refine tI_bnd e1 rs1 Gd1 fun u S2 w m2 H2 e2 x2 rs2 r2 Gd2 => ?_
  cases t <;> cases u <;> simp only at e2 <;> try (cases e2; done)
  rename_i i j
  split at e2
  · rename_i hj
    simp only [Option.some.injEq] at e2
    subst e2
    simp only [okR, Bool.and_eq_true, decide_eq_true_eq] at hj
    exact ⟨i, j, by rw [RepD.int (RepD.of (Rep.mono x2 _ r1)), RepD.int (RepD.of r2)], ⟨hj.1.1, hj.1.2, hj.2.1, hj.2.2⟩, Gd2 _ m2 H2 (Ext.refl _ _) rs2.sto wk_rng⟩
  · cases e2
theorem rep_tup {m : List Addr} {H : Hp} {l : List T} {v : V} (r : Rep g m H (.tup l) v) : ∃ a vs, v = .ref a ∧ ((a ∉ m ∧ Rd H a (.tup vs)) ∨ KTup g.K a vs) ∧ SqT g.K H a vs ∧ RepL g m H l vs := by
  have r1' := r
  simp only [Rep] at r1'
  obtain ⟨a', vs, rfl, h2, h3⟩ := r1'
  refine ⟨a', vs, rfl, ?_, ?_, h3⟩
  · rcases h2 with ⟨h2, _, h4⟩ | h2
    · exact .inl ⟨h2, h4⟩
    · exact .inr h2
  · rcases h2 with ⟨_, _, h4⟩ | h2
    · exact .inl h4
    · exact .inr h2
theorem rep_lst {m : List Addr} {H : Hp} {l : List T} {v : V} (r : Rep g m H (.lst l) v) : ∃ a vs, v = .ref a ∧ a ∉ m ∧ H a = some (.lst vs) ∧ RepL g m H l vs := by
  simp only [Rep] at r
  obtain ⟨a', vs, rfl, h2, _, h3, h4⟩ := r
  exact ⟨a', vs, rfl, h2, h3, h4⟩
theorem pi_z {a b : IE} {tg e y z : Expr} {ts : List Expr} {x : Str} (xo : XOk G g E W X) (hv : vCall e = some (x, [y, z])) (hx : x = "zip") (hg : bltB G x = true) (ht : vTup tg = some ts) (ha : PE X y (tE g W (evE E a))) (hb : PE X z (tE g W (evE E b))) (hs : noStar y = true) (hs2 : noStar z = true) :
    PI X tg e (tI g W (evE E (.zp a b))) := by
  obtain ⟨p, q, a', es', rfl, hr⟩ := vCall_eq hv
  cases hr
  subst hx
  obtain ⟨kk, tp, rfl⟩ := vTup_eq ht
  obtain ⟨gl, db, hm, nn⟩ := bltB_gl xo hg
  refine (RZ.pi_zipA gl hm (pa_cons ha (pa_cons hb pa_nil (starEach_cons hs2)) (starEach_cons hs)) (starEach_cons hs) (by rw [starEach_cons hs2]; rfl)).of fun σ H R ⟨fb, m, ρ, S, o, rs, e, Gd⟩ => ?_
  simp only [evE] at e
  refine tI_bnd e rs Gd fun t S1 v m1 H1 e1 x1 rs1 r1 Gd1 => ?_
  refine tI_bnd e1 rs1 Gd1 fun u S2 w m2 H2 e2 x2 rs2 r2 Gd2 => ?_
  have r1 := Rep.mono x2 _ r1
  cases t <;> cases u <;> simp only at e2 <;> try (cases e2; done)
  · simp only [Option.some.injEq] at e2
    subst e2
    obtain ⟨c, vs, rfl, h1, h2, h3⟩ := rep_tup r1
    obtain ⟨d, ws, rfl, k1, k2, k3⟩ := rep_tup r2
    refine ⟨c, d, vs, ws, rfl, .inr ⟨by rw [xo.K]; exact h2, by rw [xo.K]; exact k2, ?_⟩⟩
    rw [xo.K]
    exact Gd2 _ m2 H2 (Ext.refl _ _) rs2.sto (wk_zipT (g := g.w fb) h1 h3 k1 k3)
  · simp only [Option.some.injEq] at e2
    subst e2
    obtain ⟨c, vs, rfl, h1, h2, h3⟩ := rep_lst r1
    obtain ⟨d, ws, rfl, k1, k2, k3⟩ := rep_lst r2
    exact ⟨c, d, vs, ws, rfl, .inl ⟨SqL.of h2, SqL.of k2, Gd2 _ m2 H2 (Ext.refl _ _) rs2.sto (wk_zipL h1 h2 h3 k1 k2 k3)⟩⟩
theorem pi_e {a : IE} {tg e y : Expr} {ts : List Expr} {x : Str} (xo : XOk G g E W X) (hv : vCall e = some (x, [y])) (hx : x = "enumerate") (hg : bltB G x = true) (ht : vTup tg = some ts) (ha : PE X y (tE g W (evE E a))) (hs : noStar y = true) :
    PI X tg e (tI g W (evE E (.en a))) := by
  obtain ⟨p, q, a', es', rfl, hr⟩ := vCall_eq hv
  cases hr
  subst hx
  obtain ⟨kk, tp, rfl⟩ := vTup_eq ht
  obtain ⟨gl, db, hm, nn⟩ := bltB_gl xo hg
  refine (pi_enum gl hm (pa_cons ha pa_nil (starEach_cons hs)) (star1 hs)).of fun σ H R ⟨fb, m, ρ, S, o, rs, e, Gd⟩ => ?_
  simp only [evE] at e
  refine tI_bnd e rs Gd fun t S1 v m1 H1 e1 x1 rs1 r1 Gd1 => ?_
  cases t <;> simp only at e1 <;> try (cases e1; done)
  simp only [Option.some.injEq] at e1
  subst e1
  obtain ⟨c, vs, rfl, h1, h2, h3⟩ := rep_lst r1
  exact ⟨c, vs, rfl, SqL.of h2, Gd1 _ m1 H1 (Ext.refl _ _) rs1.sto (wk_enu h1 h2 h3)⟩

/-! ### comprehensions -/
theorem relS_ok {sc : Scope} {cl : List (Str × Addr)} {C : Addr} {scope : Scope} : (compEnvC scope cl C X.env).scope = relS scope X.env.scope := rfl
theorem takes_no {X : Cx} : Takes X (fun _ _ _ _ => False) := fun _ _ ⟨_, _, _, _, _, _, _, _, _, _, _, _, _, _, _, _, w⟩ => w.elim
theorem blk_ok (xo : XOk G g E W X) (s : Shared) (H : Hp) (scope : Scope) (C : Addr) (cl : List (Str × Addr)) (fp : List Addr) : XOk (G.blk scope) g E (fun _ _ _ _ => False) (X.blk s H scope (compEnvC scope cl C X.env) fp) where
  N := xo.N
  nd := xo.nd
  sc := by
    show relS scope X.env.scope = relS scope G.sc
    rw [xo.sc]
  K := xo.K
  calm := xo.calm
  fn := fun h => by cases h
  tk := takes_no
  un := xo.un
  blt := xo.blt
  call := xo.call
  cst := xo.cst

/-- one turn of a comprehension -/
def lcG (E : EV) (own : List Nat) (elt : IE) (tg : Tg) (cnd : IE) (ρ : Rho) : T → Sto → Option (Option T × Sto) := fun t S => match bindT tg t (wipeR ρ own) with
  | some ρ' => (match evE E cnd ρ' S with
    | some (.ok c S') => (match truthy S' c with
      | some true => (match evE E elt ρ' S' with | some (.ok y S'') => some (some y, S'') | _ => none)
      | some false => some (none, S')
      | none => none)
    | _ => none)
  | none => none
theorem lc_ev {bx : Bool} {own : List Nat} {elt : IE} {tg : Tg} {src cnd : IE} {ρ : Rho} {S : Sto} : evE E (.lc bx own elt tg src cnd) ρ S = bnd (evE E src ρ S) fun x S1 => tups x fun l => match lcL (lcG E own elt tg cnd ρ) l [] S1 with
    | some (ys, S2) => some (newL bx (.lst ys) S2)
    | none => none := rfl

theorem wipe_idem (σ : L2.St) : ∀ vs : List Nat, L2.wipe (L2.wipe σ vs) vs = L2.wipe σ vs := fun vs => by
  have h : ∀ ws : List Nat, (∀ i ∈ ws, i ∈ vs) → L2.wipe (L2.wipe σ ws) vs = L2.wipe σ vs := by
    intro ws
    induction ws with
    | nil => intro _; rfl
    | cons w r ih =>
      intro hw
      show L2.wipe ((L2.wipe σ r).set w none) vs = L2.wipe σ vs
      rw [wipe_set (hw w List.mem_cons_self)]
      exact ih fun i hi => hw i (List.mem_cons_of_mem _ hi)
  exact h vs fun _ hi => hi

theorem lcL_cons {gt : T → Sto → Option (Option T × Sto)} {x : T} {xs acc : List T} {S : Sto} {r : List T × Sto} (h : lcL gt (x :: xs) acc S = some r) :
    (∃ y S', gt x S = some (some y, S') ∧ acc.length < line ∧ lcL gt xs (acc ++ [y]) S' = some r) ∨ ∃ S', gt x S = some (none, S') ∧ lcL gt xs acc S' = some r := by
  simp only [lcL] at h
  split at h
  · rename_i y S' e
    split at h
    · rename_i hl
      exact .inl ⟨y, S', e, hl, h⟩
    · cases h
  · rename_i S' e
    exact .inr ⟨S', e, h⟩
  · cases h

/-- the comprehension's reading -/
theorem lc_read {own : List Nat} {elt cnd : IE} {tg : Tg} {wi : TI} {tt : TT} {bx : Bool} {src : IE} (hown : ∀ i ∈ slots tg, i ∈ own)
    (hw : ∀ σ H R, tI g W (evE E src) σ H R → wi σ H R)
    (ht : ∀ σ H Q, tT g (fun _ _ _ _ => False) (evE E cnd) σ H Q → tt σ H Q) {σ : L2.St} {H : Hp} {Q : VK} (h : tE g W (evE E (.lc bx own elt tg src cnd)) σ H Q) :
    tLc wi (tG g tg) tt (tE g (fun _ _ _ _ => False) (evE E elt)) own σ H Q := by
  obtain ⟨fb, m, ρ, S, o, rs, e, Gd⟩ := h
  rw [lc_ev] at e
  refine hw σ H _ ?_
  -- the source
  cases es : evE E src ρ S with
  | none => rw [es] at e; cases e
  | some r0 =>
    rw [es] at e
    refine ⟨fb, m, ρ, S, r0, rs, es, ?_⟩
    cases r0 with
    | ex c p S1 =>
      have : o = .ex c p S1 := (Option.some.inj e).symm
      subst this
      exact Gd
    | ok t S1 =>
      cases t <;> try (cases e; done)
      rename_i l
      have e : (match lcL (lcG E own elt tg cnd ρ) l [] S1 with | some (ys, S2) => some (newL bx (.lst ys) S2) | none => none) = some o := e
      split at e
      · rename_i ys S2 el
        simp only [Option.some.injEq] at e
        subst e
        intro J m1 H1 x1 sr1 wk D hD
        have env1 := rs.env.mono x1
        have Gd1 := Gd.ext x1
        obtain ⟨GG, Y, w, hG, hY⟩ := wk.ex
        have D1 : D ∉ m1 := sr1.fresh hD
        have Df : D ∉ fb := sr1.freshF hD
        have hf0 : ∀ a ∈ (D :: fb), a ∈ (g.w fb).fb ∨ H1 a = none := fun a ha => by
          rcases List.mem_cons.mp ha with q | q
          · exact .inr (by rw [q]; exact hD)
          · exact .inl q
        refine lc_it w (fun i H2 => ∃ m2 S acc vs, Ext m1 H1 m2 H2 ∧ SRep (g.w (D :: fb)) m2 H2 S ∧ H2 D = some (.lst vs) ∧ RepL (g.w (D :: fb)) m2 H2 acc vs ∧ lcL (lcG E own elt tg cnd ρ) (l.drop i) acc S = some (ys, S2)) ?_ ?_ ?_ ?_
        · -- at first
          refine ⟨m1, S1, [], [], Ext.new hD, ?_, upd_same, RepL.nil, el⟩
          refine ⟨sr1.len, sr1.nd, fun n ob a h1 h2 => ?_, fun a ha => ?_⟩
          · have z := sr1.at_ n ob a h1 h2
            refine z.step (g := g.w fb) (fb' := D :: fb) (fun _ _ q => q) (fun b o q n f => ⟨by rw [upd_ne (ne_of_none q hD)]; exact q, n, fun z => ?_⟩) (upd_ne fun q => ?_)
            · rcases hf0 b z with z | z
              · exact f z
              · rw [q] at z; cases z
            · obtain ⟨u, e⟩ := z.there
              rw [q, hD] at e; cases e
          · rcases List.mem_cons.mp ha with q | q
            · subst q; exact ⟨by rw [upd_same]; simp, D1⟩
            · obtain ⟨z1, z2⟩ := sr1.fbs a q
              refine ⟨?_, z2⟩
              by_cases q2 : a = D
              · rw [q2, upd_same]; simp
              · rw [upd_ne q2]; exact z1
        · -- the source stands still
          rintro i H2 _ ⟨m2, S, acc, vs, x2, _⟩
          exact hG m2 H2 x2
        · -- a turn
          rintro i x H2 H3 hi ⟨m2, S, acc, vs, x2, sr2, d2, rl2, el2⟩ y
          obtain ⟨t, ht', rt, hH⟩ := hY i (D :: fb) m2 H2 x H3 hi x2 hf0 (fun a ha => ⟨sr2.fresh ha, sr2.freshF ha⟩) y
          have x23 : Ext m2 H2 m2 H3 := by
            rcases hH with rfl | ⟨p, o, hp, rfl⟩
            · exact Ext.refl _ _
            · exact Ext.new hp
          have sr3 : SRep (g.w (D :: fb)) m2 H3 S := by
            rcases hH with rfl | ⟨p, o, hp, rfl⟩
            · exact sr2
            · exact sr2.new hp
          have x3 := x2.trans x23
          have d3 : H3 D = some (.lst vs) := x23.keep _ _ d2 (sr2.fbs D List.mem_cons_self).2
          have rl3 := RepL.mono x23 acc rl2
          have env3 : ERep (g.w (D :: fb)) m2 H3 ρ σ := ⟨env1.1, fun j u q => by
            obtain ⟨v, q1, q2⟩ := env1.2 j u q
            exact ⟨v, q1, Rep.grow x3 hf0 q2⟩⟩
          have hdrop : l.drop i = t :: l.drop (i + 1) := by
            obtain ⟨hlt, e⟩ := List.getElem?_eq_some_iff.mp ht'
            rw [List.drop_eq_getElem_cons hlt, e]
          rw [hdrop] at el2
          have turn : ∃ ρ' c S', bindT tg t (wipeR ρ own) = some ρ' ∧ evE E cnd ρ' S = some (.ok c S') ∧ ((truthy S' c = some true ∧ ∃ y S'', evE E elt ρ' S' = some (.ok y S'') ∧ acc.length < line ∧ lcL (lcG E own elt tg cnd ρ) (l.drop (i + 1)) (acc ++ [y]) S'' = some (ys, S2)) ∨ (truthy S' c = some false ∧ lcL (lcG E own elt tg cnd ρ) (l.drop (i + 1)) acc S' = some (ys, S2))) := by
            have key : ∀ {r}, lcG E own elt tg cnd ρ t S = some r → ∃ ρ' c S', bindT tg t (wipeR ρ own) = some ρ' ∧ evE E cnd ρ' S = some (.ok c S') ∧ ((truthy S' c = some true ∧ ∃ y S'', evE E elt ρ' S' = some (.ok y S'') ∧ r = (some y, S'')) ∨ (truthy S' c = some false ∧ r = (none, S'))) := by
              intro r q
              unfold lcG at q
              split at q
              · rename_i ρ' hb
                split at q
                · rename_i c S' hc
                  split at q
                  · rename_i htr
                    split at q
                    · rename_i y S'' hy
                      exact ⟨ρ', c, S', hb, hc, .inl ⟨htr, y, S'', hy, (Option.some.inj q).symm⟩⟩
                    · cases q
                  · rename_i htr
                    exact ⟨ρ', c, S', hb, hc, .inr ⟨htr, (Option.some.inj q).symm⟩⟩
                  · cases q
                · cases q
              · cases q
            rcases lcL_cons el2 with ⟨y, S', q1, q2, q3⟩ | ⟨S', q1, q3⟩
            · obtain ⟨ρ', c, S1', hb, hc, q⟩ := key q1
              rcases q with ⟨htr, y', S'', hy, er⟩ | ⟨_, er⟩
              · cases er
                exact ⟨ρ', c, S1', hb, hc, .inl ⟨htr, y, S', hy, q2, q3⟩⟩
              · cases er
            · obtain ⟨ρ', c, S1', hb, hc, q⟩ := key q1
              rcases q with ⟨htr, y', S'', hy, er⟩ | ⟨htr, er⟩
              · cases er
              · cases er
                exact ⟨ρ', c, S', hb, hc, .inr ⟨htr, q3⟩⟩
          obtain ⟨ρ', c, S', hb, hc, res⟩ := turn
          refine ⟨D :: fb, m2, t, wipeR ρ own, ρ', S, ⟨env3.wipe own, sr3⟩, rt, hb, fun σ2 rs2 k2 => ⟨?_, ht σ2 H3 _ ?_⟩⟩
          · rw [k2 own hown, wipe_idem]
          refine ⟨D :: fb, m2, ρ', S, .ok c S', rs2, hc, ?_⟩
          rcases res with ⟨htr, y, S'', hy, hlen, hrest⟩ | ⟨htr, hrest⟩
          · refine ⟨true, htr, fun m4 H4 x4 sr4 => iteT ⟨D :: fb, m4, ρ', S', .ok y S'', ⟨rs2.env.mono x4, sr4⟩, hy, fun v m5 H5 x5 sr5 r5 => ?_⟩⟩
            have x35 := x4.trans x5
            have Dm3 : D ∉ m2 := (sr3.fbs D List.mem_cons_self).2
            have d5 : H5 D = some (.lst vs) := x35.keep _ _ d3 Dm3
            have Dm5 : D ∉ m5 := (sr5.fbs D List.mem_cons_self).2
            have rl5 := RepL.mono x35 acc rl3
            have upk : ∀ a o, H5 a = some o → a ∉ m5 → a ∉ (g.w (D :: fb)).fb → (upd H5 D (.lst (vs ++ [v]))) a = some o ∧ a ∉ m5 ∧ a ∉ (D :: fb) := fun a o q n f => ⟨by
              rw [upd_ne fun z => f (by rw [z]; exact List.mem_cons_self)]; exact q, n, f⟩
            refine ⟨vs, d5, by rw [← rl5.length, ← line_eq]; exact hlen, m5, S'', acc ++ [y], vs ++ [v], ?_, ?_, upd_same, ?_, hrest⟩
            · have z := x3.trans x35
              refine ⟨z.grow, fun a o q n => ?_, fun a q n => ?_⟩
              · rw [upd_ne (ne_of_none q hD)]; exact z.keep a o q n
              · by_cases q2 : a = D
                · rw [q2, upd_same]; simp
                · rw [upd_ne q2]; exact z.there a q n
            · refine ⟨sr5.len, sr5.nd, fun n ob a h1 h2 => ?_, fun a ha => ?_⟩
              · have z := sr5.at_ n ob a h1 h2
                have ha : a ≠ D := fun q => Dm5 (by rw [← q]; exact List.mem_of_getElem? h2)
                exact z.step (g := g.w (D :: fb)) (fb' := D :: fb) (fun _ _ q => q) upk (upd_ne ha)
              · obtain ⟨z1, z2⟩ := sr5.fbs a ha
                refine ⟨?_, z2⟩
                by_cases q2 : a = D
                · rw [q2, upd_same]; simp
                · rw [upd_ne q2]; exact z1
            · exact RepL.step (g := g.w (D :: fb)) (fb' := D :: fb) (fun _ _ q => q) upk _ (rl5.append (RepL.cons r5 RepL.nil))
          · refine ⟨false, htr, fun m4 H4 x4 sr4 => iteF ?_⟩
            exact ⟨m4, S', acc, vs, x3.trans x4, sr4, x4.keep _ _ d3 (sr3.fbs D List.mem_cons_self).2, RepL.mono x4 acc rl3, hrest⟩
        · -- the end
          rintro H2 ⟨m2, S, acc, vs, x2, sr2, d2, rl2, el2⟩
          rw [List.drop_length] at el2
          simp only [lcL, Option.some.injEq, Prod.mk.injEq] at el2
          obtain ⟨rfl, rfl⟩ := el2
          have Dm : D ∉ m2 := (sr2.fbs D List.mem_cons_self).2
          cases bx with
          | false =>
            have low : ∀ a o, H2 a = some o → a ∉ m2 → a ∉ (g.w (D :: fb)).fb → H2 a = some o ∧ a ∉ m2 ∧ a ∉ fb := fun a o q n f => ⟨q, n, fun z => f (List.mem_cons_of_mem _ z)⟩
            refine Gd1 (.ref D) m2 H2 x2 ⟨sr2.len, sr2.nd, fun n ob a h1 h2 => (sr2.at_ n ob a h1 h2).step (g := g.w (D :: fb)) (fb' := fb) (fun _ _ q => q) low rfl, fun a ha => sr2.fbs a (List.mem_cons_of_mem _ ha)⟩ ?_
            simp only [Rep]
            exact ⟨D, vs, rfl, Dm, Df, d2, RepL.step (g := g.w (D :: fb)) (fb' := fb) (fun _ _ q => q) low _ rl2⟩
          | true =>
            have low : ∀ a o, H2 a = some o → a ∉ m2 → a ∉ (g.w (D :: fb)).fb → H2 a = some o ∧ a ∉ m2 ++ [D] ∧ a ∉ fb := fun a o q n f => ⟨q, fun z => by
              rcases List.mem_append.mp z with z | z
              · exact n z
              · exact f (by simp only [List.mem_singleton] at z; rw [z]; exact List.mem_cons_self), fun z => f (List.mem_cons_of_mem _ z)⟩
            have hget : ∀ (n : Nat) (a : Addr), m2[n]? = some a → (m2 ++ [D])[n]? = some a := fun n a q => by
              rw [List.getElem?_append_left (List.getElem?_eq_some_iff.mp q).1]; exact q
            obtain ⟨k, hk1, hk2⟩ := x2.grow
            refine Gd1 (.ref D) (m2 ++ [D]) H2 ⟨⟨k ++ [D], by rw [hk1, List.append_assoc], fun a ha => ?_⟩, x2.keep, x2.there⟩ ⟨by simp [sr2.len], ?_, fun n ob a h1 h2 => ?_, fun a ha => ?_⟩ ?_
            · rcases List.mem_append.mp ha with q | q
              · exact hk2 a q
              · simp only [List.mem_singleton] at q; rw [q]; exact hD
            · refine List.nodup_append.mpr ⟨sr2.nd, by simp, fun a ha b hb e => ?_⟩
              simp only [List.mem_singleton] at hb
              subst hb; subst e
              exact Dm ha
            · by_cases hn : n < S.length
              · rw [List.getElem?_append_left hn] at h1
                rw [List.getElem?_append_left (by rw [sr2.len]; exact hn)] at h2
                exact (sr2.at_ n ob a h1 h2).step (g := g.w (D :: fb)) (fb' := fb) hget low rfl
              · have e1 : n = S.length := by
                  have := (List.getElem?_eq_some_iff.mp h1).1
                  simp at this
                  omega
                subst e1
                rw [List.getElem?_append_right (Nat.le_refl _)] at h1
                rw [List.getElem?_append_right (by rw [sr2.len]; exact Nat.le_refl _)] at h2
                simp [sr2.len] at h1 h2
                subst h1; subst h2
                exact ⟨vs, d2, RepL.step (g := g.w (D :: fb)) (fb' := fb) hget low _ rl2⟩
            · obtain ⟨z1, z2⟩ := sr2.fbs a (List.mem_cons_of_mem _ ha)
              refine ⟨z1, fun z => ?_⟩
              rcases List.mem_append.mp z with z | z
              · exact z2 z
              · simp only [List.mem_singleton] at z; exact Df (by rw [← z]; exact ha)
            · simp only [Rep]
              exact ⟨D, by rw [← sr2.len]; simp, rfl⟩
      · cases e
end
end Fw

namespace Fw
open PySem L2 PyProof.Rows

section
variable {g : GW} {E : EV}

theorem chn_read {o o' : CmpOp} {a b c : IE} {W : WX} {σ : L2.St} {H : Hp} {Q : VK} (h : tE g W (evE E (.chn o o' a b c)) σ H Q) : tChain (rCx g o) (rCx g o') (tE g W (evE E a)) (tE g W (evE E b)) (tE g W (evE E c)) σ H Q := by
  obtain ⟨fb, m, ρ, S, o'', rs, e, Gd⟩ := h
  simp only [evE] at e
  refine tE_bnd e rs Gd fun t S1 v m1 H1 e1 x1 rs1 r1 Gd1 => ?_
  refine tE_bnd e1 rs1 Gd1 fun u S2 w m2 H2 e2 x2 rs2 r2 Gd2 => ?_
  split at e2
  · rename_i hz
    refine ⟨fb, W, m2, σ, S2, _, _, true, rs2.sto, Rep.mono x2 _ r1, r2, hz, fun v3 m3 H3 x3 sr3 r3 => ⟨true, by simpa [Rep] using r3, iteT ?_⟩⟩
    refine tE_bnd e2 ⟨rs2.env.mono x3, sr3⟩ (Gd2.ext x3) fun u' S4 w' m4 H4 e4 x4 rs4 r4 Gd4 => ?_
    simp only [liftB] at e4
    split at e4
    · rename_i z4 hz4
      simp only [Option.some.injEq] at e4
      subst e4
      exact ⟨fb, W, m4, σ, S4, _, _, z4, rs4.sto, Rep.mono x4 _ (Rep.mono x3 _ r2), r4, hz4, Gd4⟩
    · cases e4
  · rename_i hz
    simp only [Option.some.injEq] at e2
    subst e2
    refine ⟨fb, W, m2, σ, S2, _, _, false, rs2.sto, Rep.mono x2 _ r1, r2, hz, fun v3 m3 H3 x3 sr3 r3 => ⟨false, by simpa [Rep] using r3, iteF ?_⟩⟩
    exact Gd2 _ m3 H3 x3 sr3 Rep.bl_
  · cases e2

structure Snd (g : GW) (E : EV) (ie : IE) : Prop where
  e : ∀ (G : Gm) (W : WX) (X : Cx), XOk G g E W X → ∀ e, chkE G ie e = true → PE X e (tE g W (evE E ie)) ∧ (noIf e = true → PT X e (tT g W (evE E ie)))
  a : ∀ (G : Gm) (W : WX) (X : Cx), XOk G g E W X → ∀ es, chkA G ie es = true → PA X es (tA g W (evE E ie))
  i : ∀ (G : Gm) (W : WX) (X : Cx), XOk G g E W X → ∀ tg e, isPair ie tg = true → chkI G ie e = true → PI X tg e (tI g W (evE E ie))

theorem Snd.o {ie : IE} (s : Snd g E ie) {G : Gm} {W : WX} {X : Cx} (xo : XOk G g E W X) {o : Option Expr} (h : chkO G ie o = true) : PO X o (tO g W (isNil ie) (evE E ie)) := by
  refine po_of (fun e => ?_) fun e he => ?_
  · subst e; simpa [chkO] using h
  · subst he
    simp only [chkO, Bool.and_eq_true, Bool.not_eq_true'] at h
    exact ⟨h.2, (s.e G W X xo e h.1).1⟩

/-- an expression alone -/
theorem snd_e {ie : IE} (h : ∀ (G : Gm) (W : WX) (X : Cx), XOk G g E W X → ∀ e, chkE G ie e = true → PE X e (tE g W (evE E ie)) ∧ (noIf e = true → PT X e (tT g W (evE E ie))))
    (ha : ∀ G es, chkA G ie es = false) (hi : ∀ G e, chkI G ie e = false) : Snd g E ie :=
  ⟨h, fun G W X _ es q => (by rw [ha] at q; cases q), fun G W X _ tg e _ q => (by rw [hi] at q; cases q)⟩
theorem snd_i {ie : IE} (h : ∀ (G : Gm) (W : WX) (X : Cx), XOk G g E W X → ∀ tg e, isPair ie tg = true → chkI G ie e = true → PI X tg e (tI g W (evE E ie)))
    (ha : ∀ G es, chkA G ie es = false) (he : ∀ G e, chkE G ie e = false) : Snd g E ie :=
  ⟨fun G W X _ e q => (by rw [he] at q; cases q), fun G W X _ es q => (by rw [ha] at q; cases q), h⟩

theorem vBin_eq {e x y : Expr} {p : Operator} (h : vBin e = some (x, p, y)) : ∃ q, e = .BinOp x p y q := by
  cases e <;> simp [vBin] at h
  obtain ⟨rfl, rfl, rfl⟩ := h; exact ⟨_, rfl⟩
theorem vCmp_eq {e x y : Expr} {p : CmpOp} (h : vCmp e = some (x, p, y)) : ∃ q, e = .Compare x [p] [y] q := by
  unfold vCmp at h
  split at h
  · simp only [Option.some.injEq, Prod.mk.injEq] at h
    obtain ⟨rfl, rfl, rfl⟩ := h; exact ⟨_, rfl⟩
  · cases h
theorem vChn_eq {e x y z : Expr} {p p' : CmpOp} (h : vChn e = some (x, p, y, p', z)) : ∃ q, e = .Compare x [p, p'] [y, z] q := by
  unfold vChn at h
  split at h
  · simp only [Option.some.injEq, Prod.mk.injEq] at h
    obtain ⟨rfl, rfl, rfl, rfl, rfl⟩ := h; exact ⟨_, rfl⟩
  · cases h
theorem vNeg_eq {e x : Expr} (h : vNeg e = some x) : ∃ q, e = .UnaryOp .USub x q := by
  unfold vNeg at h
  split at h
  · simp only [Option.some.injEq] at h; subst h; exact ⟨_, rfl⟩
  · cases h
theorem vNot_eq {e x : Expr} (h : vNot e = some x) : ∃ q, e = .UnaryOp .Not x q := by
  unfold vNot at h
  split at h
  · simp only [Option.some.injEq] at h; subst h; exact ⟨_, rfl⟩
  · cases h
theorem vIfE_eq {e z x y : Expr} (h : vIfE e = some (z, x, y)) : ∃ q, e = .IfExp z x y q := by
  cases e <;> simp [vIfE] at h
  obtain ⟨rfl, rfl, rfl⟩ := h; exact ⟨_, rfl⟩
theorem vLc_eq {e x t it : Expr} {cs : List Expr} {scope : Scope} (h : vLc e = some (x, t, it, cs, scope)) : ∃ q, e = .ListComp x [⟨t, it, cs, 0⟩] scope q := by
  unfold vLc at h
  split at h
  · simp only [Option.some.injEq, Prod.mk.injEq] at h
    obtain ⟨rfl, rfl, rfl, rfl, rfl⟩ := h; exact ⟨_, rfl⟩
  · cases h
theorem isYes_eq {a : IE} (h : isYes a = true) : a = .lit (.bl true) := by
  unfold isYes at h
  split at h
  · rfl
  · cases h
theorem yes_read {W : WX} {σ : L2.St} {H : Hp} {Q : Bool → Hp → Prop} (h : tT g W (evE E (.lit (.bl true))) σ H Q) : tYes σ H Q := by
  obtain ⟨fb, m, ρ, S, o, rs, e, Gd⟩ := h
  simp only [evE, Option.some.injEq] at e
  subst e
  obtain ⟨b, eb, k⟩ := Gd
  simp only [truthy, Option.some.injEq] at eb
  subst eb
  exact k m H (Ext.refl _ _) rs.sto

theorem noset_fold {it : Expr} {env : Env} (h : noSet it = true) : ∀ x, foldedSetIterable it env x = pure x := by
  cases it <;> first | (intro _; rfl) | cases h

theorem own_map (N : List Str) (own : List Nat) : (own.map fun i => ((N.getD i "", i) : Str × Nat)).map (·.2) = own := by
  rw [List.map_map]
  conv => rhs; rw [← List.map_id own]
  rfl

/-- the parts of a comprehension, as the rules want them -/
theorem lc_parts {G : Gm} {W : WX} {X : Cx} (xo : XOk G g E W X) {bx : Bool} {own : List Nat} {elt src cnd : IE} {tg : Tg} {e : Expr} (se : Snd g E elt) (ss : Snd g E src) (sc : Snd g E cnd) (h : chkE G (.lc bx own elt tg src cnd) e = true) :
    ∃ (x t it : Expr) (cs : List Expr) (scope : Scope) (q : Pos) (wi : TI) (tt : TT) (ow : List (Str × Nat)), e = .ListComp x [⟨t, it, cs, 0⟩] scope q ∧ ow.map (·.2) = own ∧ PI X t it wi ∧ BlkOk X.N X.env.scope scope ow ∧
      (∀ (s : Shared) (H : Hp) (C : Addr) (cl : List (Str × Addr)) (fp : List Addr), PG (X.blk s H scope (compEnvC scope cl C X.env) fp) t (tG g tg)) ∧ (∀ (s : Shared) (H : Hp) (C : Addr) (cl : List (Str × Addr)) (fp : List Addr), PTs (X.blk s H scope (compEnvC scope cl C X.env) fp) cs tt) ∧
      (∀ (s : Shared) (H : Hp) (C : Addr) (cl : List (Str × Addr)) (fp : List Addr), PE (X.blk s H scope (compEnvC scope cl C X.env) fp) x (tE g (fun _ _ _ _ => False) (evE E elt))) ∧ (∀ y, foldedSetIterable it X.env y = pure y) ∧
      (∀ σ H Q, tE g W (evE E (.lc bx own elt tg src cnd)) σ H Q → tLc wi (tG g tg) tt (tE g (fun _ _ _ _ => False) (evE E elt)) own σ H Q) := by
  simp only [chkE] at h
  split at h
  · rename_i x t it cs scope hv
    obtain ⟨q, rfl⟩ := vLc_eq hv
    simp only [Bool.and_eq_true] at h
    obtain ⟨h1, h2, h3, ⟨h4, h5, h6⟩, h7, h8⟩ := h
    have hown : ∀ i ∈ slots tg, i ∈ own := by simpa using h2
    have blk := fun s H C cl fp => blk_ok xo s H scope C cl fp
    have hpg : ∀ (s : Shared) (H : Hp) (C : Addr) (cl : List (Str × Addr)) (fp : List Addr), PG (X.blk s H scope (compEnvC scope cl C X.env) fp) t (tG g tg) := fun s H C cl fp =>
      (pg_sound (blk s H C cl fp).N (blk s H C cl fp).nd (blk s H C cl fp).sc (blk s H C cl fp).calm (blk s H C cl fp).K (blk s H C cl fp).fn tg).1 t h3
    have hb : BlkOk X.N X.env.scope scope (own.map fun i => (G.N.getD i "", i)) := by rw [xo.N, xo.sc]; exact blkOk_by h1
    refine ⟨x, t, it, cs, scope, q, tI g W (evE E src), ?_⟩
    have hpe := fun s H C cl fp => (se.e _ _ _ (blk s H C cl fp) x h7).1
    have hpi := ss.i G W X xo t it h4 h5
    cases cs with
    | nil =>
      have := isYes_eq h8
      subst this
      exact ⟨tYes, _, rfl, own_map _ _, hpi, hb, hpg, fun _ _ _ _ _ => pts_nil, hpe, noset_fold h6, fun σ H Q q => lc_read hown (fun _ _ _ z => z) (fun _ _ _ z => yes_read z) q⟩
    | cons c r =>
      cases r with
      | nil =>
        simp only [Bool.and_eq_true] at h8
        exact ⟨tT g (fun _ _ _ _ => False) (evE E cnd), _, rfl, own_map _ _, hpi, hb, hpg, fun s H C cl fp => pts_one ((sc.e _ _ _ (blk s H C cl fp) c h8.1).2 h8.2), hpe, noset_fold h6, fun σ H Q q => lc_read hown (fun _ _ _ z => z) (fun _ _ _ z => z) q⟩
      | cons c2 r2 => cases h8
  · cases h

theorem sound : ∀ ie : IE, Snd g E ie := by
  intro ie
  induction ie with
  | lit v =>
    refine snd_e (fun G W X xo e h => ?_) (fun _ _ => by simp [chkA]) fun _ _ => by simp [chkI]
    have h' : lits G v e = true := by simpa [chkE] using h
    have pe : PE X e (tE g W (evE E (.lit v))) := pe_lit xo h'
    refine ⟨pe, fun _ => pt_tr xo pe ?_⟩
    have : (∃ c k p, e = .Constant c k p) ∨ ∃ x p, e = .Name x p := by
      cases v <;> simp only [lits] at h' <;> first | (cases h'; done) | skip
      all_goals
        split at h'
        · rename_i q
          first
            | (obtain ⟨k, p, rfl⟩ := vConst_eq q; exact .inl ⟨_, _, _, rfl⟩)
            | (obtain ⟨p, rfl⟩ := vName_eq q; exact .inr ⟨_, _, rfl⟩)
        · cases h'
    rcases this with ⟨c, k, p, rfl⟩ | ⟨x, p, rfl⟩ <;> (intro _; rfl)
  | var i =>
    refine snd_e (fun G W X xo e h => ?_) (fun _ _ => by simp [chkA]) fun _ _ => by simp [chkI]
    have pe := pe_v xo h
    refine ⟨pe, fun _ => pt_tr xo pe ?_⟩
    simp only [chkE] at h
    split at h
    · rename_i x q
      obtain ⟨p, rfl⟩ := vName_eq q
      intro _; rfl
    · cases h
  | cst c =>
    refine snd_e (fun G W X xo e h => ?_) (fun _ _ => by simp [chkA]) fun _ _ => by simp [chkI]
    have pe := pe_k xo h
    refine ⟨pe, fun _ => pt_tr xo pe ?_⟩
    simp only [chkE] at h
    split at h
    · rename_i x q
      obtain ⟨p, rfl⟩ := vName_eq q
      intro _; rfl
    · cases h
  | nil =>
    refine ⟨fun G W X xo e h => (by simp [chkE] at h), fun G W X xo es h => ?_, fun G W X xo tg e _ h => (by simp [chkI] at h)⟩
    simp only [chkA, List.isEmpty_iff] at h
    subst h
    exact pa_n
  | cons a b iha ihb =>
    refine ⟨fun G W X xo e h => (by simp [chkE] at h), fun G W X xo es h => ?_, fun G W X xo tg e _ h => (by simp [chkI] at h)⟩
    cases es with
    | nil => simp [chkA] at h
    | cons e r =>
      simp only [chkA, Bool.and_eq_true] at h
      exact pa_c (iha.e G W X xo e h.1).1 (ihb.a G W X xo r h.2.2) h.2.1
  | tup es ih =>
    refine snd_e (fun G W X xo e h => ?_) (fun _ _ => by simp [chkA]) fun _ _ => by simp [chkI]
    simp only [chkE] at h
    split at h
    · rename_i xs q
      obtain ⟨k, p, rfl⟩ := vTup_eq q
      have pe := pe_tu (k := k) (p := p) (ih.a G W X xo xs h)
      exact ⟨pe, fun _ => pt_tr xo pe fun _ => rfl⟩
    · cases h
  | lst bx es ih =>
    refine snd_e (fun G W X xo e h => ?_) (fun _ _ => by simp [chkA]) fun _ _ => by simp [chkI]
    simp only [chkE] at h
    split at h
    · rename_i xs q
      obtain ⟨p, rfl⟩ := vLst_eq q
      have pe := pe_ls (bx := bx) (p := p) (ih.a G W X xo xs h)
      exact ⟨pe, fun _ => pt_tr xo pe fun _ => rfl⟩
    · cases h
  | op bx o a b iha ihb =>
    refine snd_e (fun G W X xo e h => ?_) (fun _ _ => by simp [chkA]) fun _ _ => by simp [chkI]
    simp only [chkE] at h
    split at h
    · rename_i x p y hv
      obtain ⟨q, rfl⟩ := vBin_eq hv
      simp only [Bool.and_eq_true, decide_eq_true_eq] at h
      obtain ⟨rfl, h1, h2⟩ := h
      have pe := pe_o (bx := bx) (o := o) (p := q) xo (iha.e G W X xo x h1).1 (ihb.e G W X xo y h2).1
      exact ⟨pe, fun _ => pt_tr xo pe fun _ => rfl⟩
    · cases h
  | cmp o a b iha ihb =>
    refine snd_e (fun G W X xo e h => ?_) (fun _ _ => by simp [chkA]) fun _ _ => by simp [chkI]
    simp only [chkE] at h
    split at h
    · rename_i x p y hv
      obtain ⟨q, rfl⟩ := vCmp_eq hv
      simp only [Bool.and_eq_true, decide_eq_true_eq] at h
      obtain ⟨rfl, h1, h2, h3⟩ := h
      exact ⟨pe_cm xo (iha.e G W X xo x h1).1 (ihb.e G W X xo y h2).1 h3, fun _ => pt_cm xo (iha.e G W X xo x h1).1 (ihb.e G W X xo y h2).1 h3⟩
    · cases h
  | chn o o' a b c iha ihb ihc =>
    refine snd_e (fun G W X xo e h => ?_) (fun _ _ => by simp [chkA]) fun _ _ => by simp [chkI]
    simp only [chkE] at h
    split at h
    · rename_i x p y p' z hv
      obtain ⟨q, rfl⟩ := vChn_eq hv
      simp only [Bool.and_eq_true, decide_eq_true_eq] at h
      obtain ⟨rfl, rfl, h1, h2, h3, h4, h5⟩ := h
      have pa := (iha.e G W X xo x h1).1
      have pb := (ihb.e G W X xo y h2).1
      have pc := (ihc.e G W X xo z h3).1
      refine ⟨pe_ch xo pa pb pc h4 h5, fun _ => ?_⟩
      exact (pt_chain (op_cx xo.K xo.un o) (op_cx xo.K xo.un o') pa pb pc (by show lastMarks [o'] [z] = false; exact noset_mark h5)).of fun σ H Q h => chn_read (tT_bool h chn_bl)
    · cases h
  | neg a ih =>
    refine snd_e (fun G W X xo e h => ?_) (fun _ _ => by simp [chkA]) fun _ _ => by simp [chkI]
    simp only [chkE] at h
    split at h
    · rename_i x hv
      obtain ⟨q, rfl⟩ := vNeg_eq hv
      have pe := pe_ng (p := q) (ih.e G W X xo x h).1
      exact ⟨pe, fun _ => pt_tr xo pe fun _ => rfl⟩
    · cases h
  | not a ih =>
    refine snd_e (fun G W X xo e h => ?_) (fun _ _ => by simp [chkA]) fun _ _ => by simp [chkI]
    simp only [chkE] at h
    split at h
    · rename_i x hv
      obtain ⟨q, rfl⟩ := vNot_eq hv
      simp only [Bool.and_eq_true] at h
      obtain ⟨p1, p2⟩ := ih.e G W X xo x h.1
      exact ⟨pe_nt xo p1, fun _ => pt_nt (p2 h.2)⟩
    · cases h
  | and a b iha ihb =>
    refine snd_e (fun G W X xo e h => ?_) (fun _ _ => by simp [chkA]) fun _ _ => by simp [chkI]
    simp only [chkE] at h
    split at h
    · rename_i x y hv
      simp only [Bool.and_eq_true] at h
      obtain ⟨h1, h2, h3, h4⟩ := h
      obtain ⟨p1, p2⟩ := iha.e G W X xo x h1
      obtain ⟨q1, q2⟩ := ihb.e G W X xo y h2
      exact ⟨pe_an xo hv p1 q1, fun _ => pt_an hv (p2 h3) (q2 h4)⟩
    · cases h
  | or a b iha ihb =>
    refine snd_e (fun G W X xo e h => ?_) (fun _ _ => by simp [chkA]) fun _ _ => by simp [chkI]
    simp only [chkE] at h
    split at h
    · rename_i x y hv
      simp only [Bool.and_eq_true] at h
      obtain ⟨h1, h2, h3, h4⟩ := h
      obtain ⟨p1, p2⟩ := iha.e G W X xo x h1
      obtain ⟨q1, q2⟩ := ihb.e G W X xo y h2
      exact ⟨pe_orr xo hv p1 q1, fun _ => pt_orr hv (p2 h3) (q2 h4)⟩
    · cases h
  | ite c a b ihc iha ihb =>
    refine snd_e (fun G W X xo e h => ?_) (fun _ _ => by simp [chkA]) fun _ _ => by simp [chkI]
    simp only [chkE] at h
    split at h
    · rename_i z x y hv
      obtain ⟨q, rfl⟩ := vIfE_eq hv
      simp only [Bool.and_eq_true] at h
      obtain ⟨h1, h2, h3, h4⟩ := h
      exact ⟨pe_if ((ihc.e G W X xo z h1).2 h4) (iha.e G W X xo x h2).1 (ihb.e G W X xo y h3).1, fun z => by cases z⟩
    · cases h
  | ix a b iha ihb =>
    refine snd_e (fun G W X xo e h => ?_) (fun _ _ => by simp [chkA]) fun _ _ => by simp [chkI]
    simp only [chkE] at h
    split at h
    · rename_i x y hv
      simp only [Bool.and_eq_true] at h
      have pe := pe_i xo hv (iha.e G W X xo x h.1).1 (ihb.e G W X xo y h.2).1
      obtain ⟨p, rfl, _⟩ := vIx_eq hv
      exact ⟨pe, fun _ => pt_tr xo pe fun _ => rfl⟩
    · cases h
  | sl bx a lo hi iha ihl ihh =>
    refine snd_e (fun G W X xo e h => ?_) (fun _ _ => by simp [chkA]) fun _ _ => by simp [chkI]
    simp only [chkE] at h
    split at h
    · rename_i x l hh hv
      simp only [Bool.and_eq_true] at h
      have pe := pe_s (bx := bx) xo hv (iha.e G W X xo x h.1).1 (ihl.o xo h.2.1) (ihh.o xo h.2.2)
      obtain ⟨p, p2, rfl⟩ := vSl_eq hv
      exact ⟨pe, fun _ => pt_tr xo pe fun _ => rfl⟩
    · cases h
  | rev bx a ih =>
    refine snd_e (fun G W X xo e h => ?_) (fun _ _ => by simp [chkA]) fun _ _ => by simp [chkI]
    simp only [chkE] at h
    split at h
    · rename_i x hv
      have pe := pe_r (bx := bx) xo hv (ih.e G W X xo x h).1
      obtain ⟨k, p1, p2, p3, p, rfl⟩ := vRev_eq hv
      exact ⟨pe, fun _ => pt_tr xo pe fun _ => rfl⟩
    · cases h
  | call f es ih =>
    refine snd_e (fun G W X xo e h => ?_) (fun _ _ => by simp [chkA]) fun _ _ => by simp [chkI]
    simp only [chkE] at h
    split at h
    · rename_i x r hv
      simp only [Bool.and_eq_true] at h
      have pe := pe_ca xo hv (isNm_eq h.1) h.2.1 h.2.2 (ih.a G W X xo r h.2.2)
      obtain ⟨p, q, a, es', rfl, _⟩ := vCall_eq hv
      exact ⟨pe, fun _ => pt_tr xo pe fun _ => rfl⟩
    · cases h
  | blt bx b es ih =>
    refine snd_e (fun G W X xo e h => ?_) (fun _ _ => by simp [chkA]) fun _ _ => by simp [chkI]
    simp only [chkE] at h
    split at h
    · rename_i x r hv
      simp only [Bool.and_eq_true] at h
      have pe := pe_bl_ (bx := bx) xo hv (by simpa using h.1) h.2.1 h.2.2 (ih.a G W X xo r h.2.2)
      obtain ⟨p, q, a, es', rfl, _⟩ := vCall_eq hv
      exact ⟨pe, fun _ => pt_tr xo pe fun _ => rfl⟩
    · cases h
  | isi a ty ih =>
    refine snd_e (fun G W X xo e h => ?_) (fun _ _ => by simp [chkA]) fun _ _ => by simp [chkI]
    simp only [chkE] at h
    split at h
    · rename_i x y z hv
      split at h
      · rename_i w hw
        simp only [Bool.and_eq_true, beq_iff_eq] at h
        obtain ⟨h1, h2, h3, h4, h5, h6, h7⟩ := h
        have pe := pe_is xo hv hw h1 h2 h3 h4 (by simpa using h5) (ih.e G W X xo y h6).1 h7
        obtain ⟨p, q, a, es', rfl, _⟩ := vCall_eq hv
        exact ⟨pe, fun _ => pt_tr xo pe fun _ => rfl⟩
      · cases h
    · cases h
  | mt0 m o ih =>
    refine snd_e (fun G W X xo e h => ?_) (fun _ _ => by simp [chkA]) fun _ _ => by simp [chkI]
    simp only [chkE] at h
    split at h
    · rename_i x n hv
      simp only [Bool.and_eq_true, beq_iff_eq] at h
      have pe := pe_m0_ xo hv h.1 h.2.1 h.2.2.1 (ih.e G W X xo x h.2.2.2).1
      obtain ⟨p, q, rfl, _⟩ := vMth_eq hv
      exact ⟨pe, fun _ => pt_tr xo pe fun _ => rfl⟩
    · cases h
  | mt1 m o a iho iha =>
    refine snd_e (fun G W X xo e h => ?_) (fun _ _ => by simp [chkA]) fun _ _ => by simp [chkI]
    simp only [chkE] at h
    split at h
    · rename_i x n y hv
      simp only [Bool.and_eq_true, beq_iff_eq, Bool.not_eq_true'] at h
      obtain ⟨h1, h2, h3, h4, h5, h6⟩ := h
      have pe := pe_m1_ xo hv h1 h2 h3 h4 (iho.e G W X xo x h5).1 (iha.e G W X xo y h6).1
      obtain ⟨p, q, rfl, _⟩ := vMth_eq hv
      exact ⟨pe, fun _ => pt_tr xo pe fun _ => rfl⟩
    · cases h
  | lc bx own elt tg src cnd ihe ihs ihc =>
    refine snd_e (fun G W X xo e h => ?_) (fun _ _ => by simp [chkA]) fun _ _ => by simp [chkI]
    obtain ⟨x, t, it, cs, scope, q, wi, tt, ow, rfl, ho, h1, h2, h3, h4, h5, h6, h7⟩ := lc_parts xo ihe ihs ihc h
    have pe : PE X (.ListComp x [⟨t, it, cs, 0⟩] scope q) (tE g W (evE E (.lc bx own elt tg src cnd))) :=
      (pe_lc xo.calm (by rw [xo.N]; exact xo.nd) h1 h2 h3 h4 h5 h6).of fun σ H Q z => by rw [ho]; exact h7 σ H Q z
    exact ⟨pe, fun _ => pt_tr xo pe fun _ => rfl⟩
  | sq a ih =>
    refine snd_i (fun G W X xo tg e hp h => ?_) (fun _ _ => by simp [chkA]) fun _ _ => by simp [chkE]
    simp only [chkI, Bool.and_eq_true] at h
    exact pi_sq xo (ih.e G W X xo e h.1).1
  | rg1 a ih =>
    refine snd_i (fun G W X xo tg e hp h => ?_) (fun _ _ => by simp [chkA]) fun _ _ => by simp [chkE]
    simp only [chkI] at h
    split at h
    · rename_i x y hv
      simp only [Bool.and_eq_true, beq_iff_eq] at h
      exact pi_r1 xo hv h.1 h.2.1 (ih.e G W X xo y h.2.2.1).1 h.2.2.2
    · cases h
  | rg2 a b iha ihb =>
    refine snd_i (fun G W X xo tg e hp h => ?_) (fun _ _ => by simp [chkA]) fun _ _ => by simp [chkE]
    simp only [chkI] at h
    split at h
    · rename_i x y z hv
      simp only [Bool.and_eq_true, beq_iff_eq] at h
      obtain ⟨h1, h2, h3, h4, h5, h6⟩ := h
      exact pi_r2 xo hv h1 h2 (iha.e G W X xo y h3).1 (ihb.e G W X xo z h4).1 h5 h6
    · cases h
  | zp a b iha ihb =>
    refine snd_i (fun G W X xo tg e hp h => ?_) (fun _ _ => by simp [chkA]) fun _ _ => by simp [chkE]
    simp only [isPair, Option.isSome_iff_exists] at hp
    obtain ⟨ts, ht⟩ := hp
    simp only [chkI] at h
    split at h
    · rename_i x y z hv
      simp only [Bool.and_eq_true, beq_iff_eq] at h
      obtain ⟨h1, h2, h3, h4, h5, h6⟩ := h
      exact pi_z xo hv h1 h2 ht (iha.e G W X xo y h3).1 (ihb.e G W X xo z h4).1 h5 h6
    · cases h
  | en a ih =>
    refine snd_i (fun G W X xo tg e hp h => ?_) (fun _ _ => by simp [chkA]) fun _ _ => by simp [chkE]
    simp only [isPair, Option.isSome_iff_exists] at hp
    obtain ⟨ts, ht⟩ := hp
    simp only [chkI] at h
    split at h
    · rename_i x y hv
      simp only [Bool.and_eq_true, beq_iff_eq] at h
      exact pi_e xo hv h.1 h.2.1 ht (ih.e G W X xo y h.2.2.1).1 h.2.2.2
    · cases h
  | lam f e ih => exact snd_e (fun G W X xo e h => by simp [chkE] at h) (fun _ _ => by simp [chkA]) fun _ _ => by simp [chkI]
end
end Fw

namespace Fw
open PySem L2 PyProof.Rows

def GoodS (g : GW) (W : WX) (m : List Addr) (H : Hp) (D : Ends) : OutS → Prop
  | .nx ρ S => ∀ σ m' H', Ext m H m' H' → RS g m' σ H' ρ S → D.nx σ H'
  | .bk ρ S => ∀ σ m' H', Ext m H m' H' → RS g m' σ H' ρ S → D.bk σ H'
  | .ct ρ S => ∀ σ m' H', Ext m H m' H' → RS g m' σ H' ρ S → D.ct σ H'
  | .rt t S => ∀ v m' H', Ext m H m' H' → SRep g m' H' S → Rep g m' H' t v → D.rt v H'
  | .ex c p ρ S => ∀ cls d σ m' H', Ext m H m' H' → RS g m' σ H' ρ S → XRep g H' c p cls d → W cls d σ H'
theorem GoodS.ext {g : GW} {W : WX} {m m' : List Addr} {H H' : Hp} {D : Ends} {o : OutS} (h : GoodS g W m H D o) (x : Ext m H m' H') : GoodS g W m' H' D o := by
  cases o with
  | nx ρ S => exact fun σ m2 H2 x2 => h σ m2 H2 (x.trans x2)
  | bk ρ S => exact fun σ m2 H2 x2 => h σ m2 H2 (x.trans x2)
  | ct ρ S => exact fun σ m2 H2 x2 => h σ m2 H2 (x.trans x2)
  | rt t S => exact fun v m2 H2 x2 => h v m2 H2 (x.trans x2)
  | ex c p ρ S => exact fun cls d σ m2 H2 x2 => h cls d σ m2 H2 (x.trans x2)
def tS (g : GW) (W : WX) (f : Rho → Sto → ResS) : TS := fun D σ H => ∃ fb m ρ S o, RS (g.w fb) m σ H ρ S ∧ f ρ S = some o ∧ GoodS (g.w fb) W m H D o

structure SOk (G : Gm) (g : GW) (E : EV) (W : WX) (X : Cx) : Prop where
  xo : XOk G g E W X
  po : PassesOwn (model X.prog X.w) X.A X.env X.xe
  kd : X.env.scope.kind = .function
  exc : ∀ c x, G.ename c = some x → ∃ (B newId initId : String) (bmB : List Value), ExcBaseFacts B newId initId bmB ∧ PySem.W.excIn X.K (g.ea c) bmB newId = true ∧ X.mg x = some (.ref (g.ea c)) ∧ PySem.W.keepIn X.K (.ref (g.ea c)) = true ∧ Raises X (.ref (g.ea c))

section
variable {g : GW} {E : EV} {G : Gm} {W : WX} {X : Cx}

theorem tS_bnd {fb : List Addr} {f : Rho → Sto → Res} {k : T → Sto → ResS} {m : List Addr} {σ : L2.St} {H : Hp} {ρ : Rho} {S : Sto} {o : OutS} {D : Ends} {R : VK}
    (h : bndS (f ρ S) ρ k = some o) (rs : RS (g.w fb) m σ H ρ S) (Gd : GoodS (g.w fb) W m H D o)
    (hk : ∀ t S1 v m1 H1, k t S1 = some o → Ext m H m1 H1 → RS (g.w fb) m1 σ H1 ρ S1 → Rep (g.w fb) m1 H1 t v → GoodS (g.w fb) W m1 H1 D o → R v H1) : tE g W f σ H R := by
  cases e : f ρ S with
  | none => rw [e] at h; cases h
  | some r =>
    rw [e] at h
    refine ⟨fb, m, ρ, S, r, rs, e, ?_⟩
    cases r with
    | ok t S1 => exact fun v m1 H1 x sr rp => hk t S1 v m1 H1 h x ⟨rs.env.mono x, sr⟩ rp (Gd.ext x)
    | ex c p S1 =>
      have : o = .ex c p ρ S1 := (Option.some.inj h).symm
      subst this
      exact fun cls d m1 H1 x sr xr => Gd cls d σ m1 H1 x ⟨rs.env.mono x, sr⟩ xr
theorem tS_tst {fb : List Addr} {f : Rho → Sto → Res} {k : T → Sto → ResS} {m : List Addr} {σ : L2.St} {H : Hp} {ρ : Rho} {S : Sto} {o : OutS} {D : Ends} {R : Bool → Hp → Prop}
    (h : bndS (f ρ S) ρ k = some o) (rs : RS (g.w fb) m σ H ρ S) (Gd : GoodS (g.w fb) W m H D o)
    (hk : ∀ t S1, k t S1 = some o → ∃ b, truthy S1 t = some b ∧ ∀ m1 H1, Ext m H m1 H1 → RS (g.w fb) m1 σ H1 ρ S1 → GoodS (g.w fb) W m1 H1 D o → R b H1) : tT g W f σ H R := by
  cases e : f ρ S with
  | none => rw [e] at h; cases h
  | some r =>
    rw [e] at h
    refine ⟨fb, m, ρ, S, r, rs, e, ?_⟩
    cases r with
    | ok t S1 =>
      obtain ⟨b, hb, q⟩ := hk t S1 h
      exact ⟨b, hb, fun m1 H1 x sr => q m1 H1 x ⟨rs.env.mono x, sr⟩ (Gd.ext x)⟩
    | ex c p S1 =>
      have : o = .ex c p ρ S1 := (Option.some.inj h).symm
      subst this
      exact fun cls d m1 H1 x sr xr => Gd cls d σ m1 H1 x ⟨rs.env.mono x, sr⟩ xr
theorem tS_args {fb : List Addr} {f : Rho → Sto → Res} {k : T → Sto → ResS} {m : List Addr} {σ : L2.St} {H : Hp} {ρ : Rho} {S : Sto} {o : OutS} {D : Ends} {R : List V → Hp → Prop}
    (h : bndS (f ρ S) ρ k = some o) (rs : RS (g.w fb) m σ H ρ S) (Gd : GoodS (g.w fb) W m H D o)
    (hk : ∀ t S1, k t S1 = some o → ∃ l, t = .tup l ∧ ∀ vs m1 H1, Ext m H m1 H1 → RS (g.w fb) m1 σ H1 ρ S1 → RepL (g.w fb) m1 H1 l vs → GoodS (g.w fb) W m1 H1 D o → R vs H1) : tA g W f σ H R := by
  cases e : f ρ S with
  | none => rw [e] at h; cases h
  | some r =>
    rw [e] at h
    refine ⟨fb, m, ρ, S, r, rs, e, ?_⟩
    cases r with
    | ok t S1 =>
      obtain ⟨l, rfl, q⟩ := hk t S1 h
      exact fun vs m1 H1 x sr rp => q vs m1 H1 x ⟨rs.env.mono x, sr⟩ rp (Gd.ext x)
    | ex c p S1 =>
      have : o = .ex c p ρ S1 := (Option.some.inj h).symm
      subst this
      exact fun cls d m1 H1 x sr xr => Gd cls d σ m1 H1 x ⟨rs.env.mono x, sr⟩ xr

theorem nocomp_sw {v : Expr} {t : Option Expr} {l : Nat} {env : Env} (h : noComp v = true) : swapsWith v t l env = pure false := by
  cases v <;> first | rfl | cases h
theorem nocomp_sole {t v : Expr} {l : Nat} {env : Env} (h : noComp v = true) : swapsWithSole [t] v l env = pure false := nocomp_sw h
theorem ite5 (c1 c2 c3 c4 c5 : Bool) (n : List Str) (u : Sem Unit) (r : Option (List Str)) (h : (if c1 = true then some none else if c2 = true then some none else if c3 = true then some none else if c4 = true then some none else if c5 = true then none else some (some n)) = some r) :
    (if (c1 || (ScopeKind.function != ScopeKind.function)) = true then (pure none : Sem (Option (List Str))) else if c2 = true then pure none else if c3 = true then pure none else if c4 = true then pure none else if c5 = true then (do u; pure (some n)) else pure (some n)) = pure r := by
  have hf : (ScopeKind.function != ScopeKind.function) = false := rfl
  rw [hf]
  cases c1 <;> cases c2 <;> cases c3 <;> cases c4 <;> cases c5 <;> simp at h ⊢ <;> rw [h]
theorem swN_ok {env : Env} {ts vs : List Expr} {k k2 : Nat} {p p2 : Pos} {r : Option (List Str)} (hk : env.scope.kind = .function) (h : swN env.scope ts vs = some r) : swappedStores [.Tuple ts k p] (.Tuple vs k2 p2) env = pure r := by
  have hb : env.blockKind = .function := by unfold Env.blockKind; rw [hk]; rfl
  unfold swappedStores
  simp only [hb]
  exact ite5 _ _ _ _ _ _ _ r h
theorem notup_sw {t v : Expr} {env : Env} (h : vTup v = none) : swappedStores [t] v env = pure none := by
  cases v <;> first | rfl | (simp [vTup] at h; done) | (cases t <;> rfl)
theorem asOne_ok {ts : List Expr} {v : Expr} {k : Nat} {p : Pos} (sc : X.env.scope = G.sc) (kd : X.env.scope.kind = .function) (h : asOne G ts v = true) : swappedStores [.Tuple ts k p] v X.env = pure none := by
  unfold asOne at h
  cases e : vTup v with
  | none => exact notup_sw e
  | some vs =>
    rw [e] at h
    obtain ⟨k2, p2, rfl⟩ := vTup_eq e
    simp only [decide_eq_true_eq] at h
    exact swN_ok kd (by rw [sc]; exact h)

theorem vS_asg {s : Stmt} {t v : Expr} {l : Nat} (h : vS s = some (.asg t v l)) : ∃ p, s = .Assign [t] v p ∧ l = t.pos.line := by
  unfold vS at h
  split at h <;> simp only [Option.some.injEq, reduceCtorEq, VS.asg.injEq] at h <;> try (cases h; done)
  obtain ⟨rfl, rfl, rfl⟩ := h
  exact ⟨_, rfl, rfl⟩

/-! ### loops -/
theorem forL_cons {gt : T → Rho → Sto → ResS} {x : T} {xs : List T} {ρ : Rho} {S : Sto} {r : OutS} (h : forL gt (x :: xs) ρ S = some r) :
    ∃ q, gt x ρ S = some q ∧ (match q with
      | .nx ρ' S' => forL gt xs ρ' S' = some r
      | .ct ρ' S' => forL gt xs ρ' S' = some r
      | .bk ρ' S' => r = .nx ρ' S'
      | .rt t S' => r = .rt t S'
      | .ex c p ρ' S' => r = .ex c p ρ' S') := by
  simp only [forL] at h
  cases e : gt x ρ S with
  | none => rw [e] at h; cases h
  | some q =>
    rw [e] at h
    refine ⟨q, rfl, ?_⟩
    cases q with
    | nx ρ' S' => exact h
    | ct ρ' S' => exact h
    | bk ρ' S' => exact (Option.some.inj h).symm
    | rt t S' => exact (Option.some.inj h).symm
    | ex c p ρ' S' => exact (Option.some.inj h).symm
def forG (E : EV) (tg : Tg) (b : IS) : T → Rho → Sto → ResS := fun t ρ S => match bindT tg t ρ with | some ρ' => evS E b ρ' S | none => none
theorem for_read {tg : Tg} {src : IE} {b : IS} {D : Ends} {σ : L2.St} {H : Hp} (h : tS g W (evS E (.for_ tg src b)) D σ H) : tFor (tI g W (evE E src)) (tG g tg) (tS g W (evS E b)) D σ H := by
  obtain ⟨fb, m, ρ, S, o, rs, e, Gd⟩ := h
  simp only [evS] at e
  cases es : evE E src ρ S with
  | none => rw [es] at e; cases e
  | some r0 =>
    rw [es] at e
    refine ⟨fb, m, ρ, S, r0, rs, es, ?_⟩
    cases r0 with
    | ex c p S1 =>
      have : o = .ex c p ρ S1 := (Option.some.inj e).symm
      subst this
      exact fun cls d m1 H1 x sr xr => Gd cls d σ m1 H1 x ⟨rs.env.mono x, sr⟩ xr
    | ok t S1 =>
      cases t <;> try (cases e; done)
      rename_i l
      have e : forL (forG E tg b) l ρ S1 = some o := e
      intro J m1 H1 x1 sr1 wk
      have rs1 : RS (g.w fb) m1 σ H1 ρ S1 := ⟨rs.env.mono x1, sr1⟩
      have Gd1 := Gd.ext x1
      obtain ⟨GG, Y, w, hG, hY⟩ := wk.ex
      refine for_it w (fun i σ2 H2 => ∃ m2 ρ2 S2, Ext m1 H1 m2 H2 ∧ RS (g.w fb) m2 σ2 H2 ρ2 S2 ∧ (i ≤ l.length → forL (forG E tg b) (l.drop i) ρ2 S2 = some o)) ?_ ?_ ?_ ?_
      · exact ⟨m1, ρ, S1, Ext.refl _ _, rs1, fun _ => e⟩
      · rintro i σ2 H2 _ ⟨m2, ρ2, S2, x2, _⟩
        exact hG m2 H2 x2
      · rintro i x σ2 H2 H3 hi ⟨m2, ρ2, S2, x2, rs2, el⟩ y
        obtain ⟨t, ht', rt, hH⟩ := hY i fb m2 H2 x H3 hi x2 (fun a ha => .inl ha) (fun a ha => ⟨rs2.sto.fresh ha, rs2.sto.freshF ha⟩) y
        have x23 : Ext m2 H2 m2 H3 := by
          rcases hH with rfl | ⟨p, o, hp, rfl⟩
          · exact Ext.refl _ _
          · exact Ext.new hp
        have sr3 : SRep (g.w fb) m2 H3 S2 := by
          rcases hH with rfl | ⟨p, o, hp, rfl⟩
          · exact rs2.sto
          · exact rs2.sto.new hp
        have hdrop : l.drop i = t :: l.drop (i + 1) := by
          obtain ⟨hlt, e⟩ := List.getElem?_eq_some_iff.mp ht'
          rw [List.drop_eq_getElem_cons hlt, e]
        have el := el (Nat.le_of_lt hi)
        rw [hdrop] at el
        obtain ⟨q, q1, q2⟩ := forL_cons el
        unfold forG at q1
        split at q1
        · rename_i ρ' hb
          refine ⟨fb, m2, t, ρ2, ρ', S2, ⟨rs2.env.mono x23, sr3⟩, rt, hb, fun σ4 rs4 _ => ?_⟩
          refine ⟨fb, m2, ρ', S2, q, rs4, q1, ?_⟩
          have x3 := x2.trans x23
          cases q with
          | nx ρ5 S5 => exact fun σ5 m5 H5 x5 rs5 => ⟨m5, ρ5, S5, x3.trans x5, rs5, fun _ => q2⟩
          | ct ρ5 S5 => exact fun σ5 m5 H5 x5 rs5 => ⟨m5, ρ5, S5, x3.trans x5, rs5, fun _ => q2⟩
          | bk ρ5 S5 =>
            subst q2
            exact fun σ5 m5 H5 x5 rs5 => Gd1 σ5 m5 H5 (x3.trans x5) rs5
          | rt t5 S5 =>
            subst q2
            exact fun v m5 H5 x5 sr5 r5 => Gd1 v m5 H5 (x3.trans x5) sr5 r5
          | ex c p ρ5 S5 =>
            subst q2
            exact fun cls d σ5 m5 H5 x5 rs5 xr => Gd1 cls d σ5 m5 H5 (x3.trans x5) rs5 xr
        · cases q1
      · rintro σ2 H2 ⟨m2, ρ2, S2, x2, rs2, el⟩
        have el := el (Nat.le_refl _)
        rw [List.drop_length] at el
        simp only [forL, Option.some.injEq] at el
        subst el
        exact Gd1 σ2 m2 H2 x2 rs2

theorem whl_read {c : IE} {b : IS} {D : Ends} {σ : L2.St} {H : Hp} (h : tS g W (evS E (.whl c b)) D σ H) : tWhile (tT g W (evE E c)) (tS g W (evS E b)) D σ H := by
  obtain ⟨fb, m, ρ, S, o, rs, e, Gd⟩ := h
  simp only [evS] at e
  refine ⟨fun n σ2 H2 => ∃ m2 ρ2 S2, Ext m H m2 H2 ∧ RS (g.w fb) m2 σ2 H2 ρ2 S2 ∧ whlL (fun ρ S => evE E c ρ S) (fun ρ S => evS E b ρ S) n ρ2 S2 = some o, ⟨_, m, ρ, S, Ext.refl _ _, rs, e⟩, ?_⟩
  rintro n σ2 H2 ⟨m2, ρ2, S2, x2, rs2, e2⟩
  cases n with
  | zero => cases e2
  | succ n =>
    simp only [whlL] at e2
    cases ec : evE E c ρ2 S2 with
    | none => rw [ec] at e2; cases e2
    | some r =>
      rw [ec] at e2
      refine ⟨fb, m2, ρ2, S2, r, rs2, ec, ?_⟩
      cases r with
      | ex c p S3 =>
        have : o = .ex c p ρ2 S3 := (Option.some.inj e2).symm
        subst this
        exact fun cls d m3 H3 x3 sr xr => Gd cls d σ2 m3 H3 (x2.trans x3) ⟨rs2.env.mono x3, sr⟩ xr
      | ok t S3 =>
        simp only at e2
        split at e2
        · rename_i ht
          refine ⟨true, ht, fun m3 H3 x3 sr3 => iteT ⟨fun σ4 H4 => ∃ m4 ρ4 S4, Ext m H m4 H4 ∧ RS (g.w fb) m4 σ4 H4 ρ4 S4 ∧ whlL (fun ρ S => evE E c ρ S) (fun ρ S => evS E b ρ S) n ρ4 S4 = some o, fun σ4 H4 q => ⟨n, Nat.lt_succ_self n, q⟩, ?_⟩⟩
          have x3' := x2.trans x3
          cases eb : evS E b ρ2 S3 with
          | none => rw [eb] at e2; cases e2
          | some q =>
            rw [eb] at e2
            refine ⟨fb, m3, ρ2, S3, q, ⟨rs2.env.mono x3, sr3⟩, eb, ?_⟩
            cases q with
            | nx ρ5 S5 => exact fun σ5 m5 H5 x5 rs5 => ⟨m5, ρ5, S5, x3'.trans x5, rs5, e2⟩
            | ct ρ5 S5 => exact fun σ5 m5 H5 x5 rs5 => ⟨m5, ρ5, S5, x3'.trans x5, rs5, e2⟩
            | bk ρ5 S5 =>
              have := (Option.some.inj e2).symm
              subst this
              exact fun σ5 m5 H5 x5 rs5 => Gd σ5 m5 H5 (x3'.trans x5) rs5
            | rt t5 S5 =>
              have := (Option.some.inj e2).symm
              subst this
              exact fun v m5 H5 x5 sr5 r5 => Gd v m5 H5 (x3'.trans x5) sr5 r5
            | ex c p ρ5 S5 =>
              have := (Option.some.inj e2).symm
              subst this
              exact fun cls d σ5 m5 H5 x5 rs5 xr => Gd cls d σ5 m5 H5 (x3'.trans x5) rs5 xr
        · rename_i ht
          have := (Option.some.inj e2).symm
          subst this
          exact ⟨false, ht, fun m3 H3 x3 sr3 => iteF (Gd σ2 m3 H3 (x2.trans x3) ⟨rs2.env.mono x3, sr3⟩)⟩
        · cases e2
end
end Fw

namespace Fw
open PySem L2 PyProof.Rows

section
variable {g : GW} {E : EV} {G : Gm} {W : WX} {X : Cx}

/-! ### stores into lists -/
def rWApp (g : GW) : V → List V → Hp → VK → Prop := fun x vs H Q => ∃ fb m S S' o t y, vs = [y] ∧ SRep (g.w fb) m H S ∧ Rep (g.w fb) m H o x ∧ Rep (g.w fb) m H t y ∧ wApp S o t = some S' ∧ ∀ m' H', Ext m H m' H' → SRep (g.w fb) m' H' S' → Q .non H'
theorem mt_wapp : MtM X "list.append" (rWApp g) := by
  intro pins s σ H x xs v us Q I rx rs h
  obtain ⟨fb, m, S, S', o, t, y, rfl, sr, ro, rt, e, k⟩ := h
  unfold wApp at e
  split at e
  · rename_i n
    split at e
    · rename_i l hl
      split at e
      · rename_i hlen
        simp only [Option.some.injEq] at e
        subst e
        simp only [Rep] at ro
        obtain ⟨a, h1, rfl⟩ := ro
        obtain ⟨vs, q1, rl⟩ := sr.at_ n _ a hl h1
        refine mt_append pins s σ H _ _ v us Q I rx rs ⟨a, vs, y, rfl, rfl, q1, by rw [← rl.length, ← line_eq]; exact hlen, ?_⟩
        exact k m _ (Ext.write (List.mem_of_getElem? h1)) (sr.write h1 (rl.append (RepL.cons rt RepL.nil)))
      · cases e
    · cases e
  · cases e
def rWSub (g : GW) : V → V → V → Hp → (Hp → Prop) → Prop := fun x i y H Q => ∃ fb m S S' o j t, SRep (g.w fb) m H S ∧ Rep (g.w fb) m H o x ∧ Rep (g.w fb) m H j i ∧ Rep (g.w fb) m H t y ∧ wSub S o j t = some S' ∧ ∀ m' H', Ext m H m' H' → SRep (g.w fb) m' H' S' → Q H'
theorem set_wsub : PSet X (rWSub g) := by
  intro pins s σ H o i v ov iv u Q I ro ri rv h
  obtain ⟨fb, m, S, S', o', j, t, sr, rep1, rep2, rep3, e, k⟩ := h
  unfold wSub at e
  split at e
  · rename_i n kk
    split at e
    · rename_i l hl
      split at e
      · rename_i z hz
        simp only [Option.some.injEq] at e
        subst e
        simp only [Rep] at rep1
        obtain ⟨a, h1, rfl⟩ := rep1
        cases RepD.int (RepD.of rep2)
        obtain ⟨vs, q1, rl⟩ := sr.at_ n _ a hl h1
        refine set_list pins s σ H _ _ v ov iv u Q I ro ri rv ⟨a, vs, kk, z, rfl, rfl, q1, by rw [← rl.length]; exact hz, ?_⟩
        exact k m _ (Ext.write (List.mem_of_getElem? h1)) (sr.write h1 (rl.set z rep3))
      · cases e
    · cases e
  · cases e

theorem vS_pass {s : Stmt} (h : vS s = some .pass) : ∃ p, s = .Pass p := by
  unfold vS at h
  split at h <;> simp only [Option.some.injEq, reduceCtorEq] at h <;> try (cases h; done)
  exact ⟨_, rfl⟩
theorem vS_brk {s : Stmt} (h : vS s = some .brk) : ∃ p, s = .Break p := by
  unfold vS at h
  split at h <;> simp only [Option.some.injEq, reduceCtorEq] at h <;> try (cases h; done)
  exact ⟨_, rfl⟩
theorem vS_cnt {s : Stmt} (h : vS s = some .cnt) : ∃ p, s = .Continue p := by
  unfold vS at h
  split at h <;> simp only [Option.some.injEq, reduceCtorEq] at h <;> try (cases h; done)
  exact ⟨_, rfl⟩
theorem vS_ret {s : Stmt} {e : Option Expr} (h : vS s = some (.ret e)) : ∃ p, s = .Return e p := by
  unfold vS at h
  split at h <;> simp only [Option.some.injEq, reduceCtorEq, VS.ret.injEq] at h <;> try (cases h; done)
  subst h; exact ⟨_, rfl⟩
theorem vS_expr {s : Stmt} {e : Expr} (h : vS s = some (.expr e)) : ∃ p, s = .Expr e p := by
  unfold vS at h
  split at h <;> simp only [Option.some.injEq, reduceCtorEq, VS.expr.injEq] at h <;> try (cases h; done)
  subst h; exact ⟨_, rfl⟩
theorem vS_iff {s : Stmt} {e : Expr} {a b : List Stmt} (h : vS s = some (.iff e a b)) : ∃ p, s = .If e a b p := by
  unfold vS at h
  split at h <;> simp only [Option.some.injEq, reduceCtorEq, VS.iff.injEq] at h <;> try (cases h; done)
  obtain ⟨rfl, rfl, rfl⟩ := h; exact ⟨_, rfl⟩
theorem vS_for {s : Stmt} {t e : Expr} {a : List Stmt} (h : vS s = some (.for_ t e a)) : ∃ p, s = .For t e a [] p := by
  unfold vS at h
  split at h <;> simp only [Option.some.injEq, reduceCtorEq, VS.for_.injEq] at h <;> try (cases h; done)
  obtain ⟨rfl, rfl, rfl⟩ := h; exact ⟨_, rfl⟩
theorem vS_whl {s : Stmt} {e : Expr} {a : List Stmt} (h : vS s = some (.whl e a)) : ∃ p, s = .While e a [] p := by
  unfold vS at h
  split at h <;> simp only [Option.some.injEq, reduceCtorEq, VS.whl.injEq] at h <;> try (cases h; done)
  obtain ⟨rfl, rfl⟩ := h; exact ⟨_, rfl⟩
theorem vS_rs {s : Stmt} {e : Expr} (h : vS s = some (.rs e)) : ∃ p, s = .Raise (some e) none p := by
  unfold vS at h
  split at h <;> simp only [Option.some.injEq, reduceCtorEq, VS.rs.injEq] at h <;> try (cases h; done)
  subst h; exact ⟨_, rfl⟩
theorem vSub_eq {e a b : Expr} (h : vSub e = some (a, b)) : ∃ p, e = .Subscript a b p ∧ ∀ env v, assign (.Subscript a b p) env v = (do
      let ov ← holding [v] (eval a env)
      let iv ← holding [v, ov] (eval b env)
      standAt p
      holding [v, ov, iv] (setItem ov iv v)
      release [v, ov, iv] []) := by
  cases e with
  | Subscript x y p =>
    cases y <;> simp [vSub] at h
    all_goals
      obtain ⟨rfl, rfl⟩ := h
      exact ⟨p, rfl, fun _ _ => rfl⟩
  | _ => simp [vSub] at h
theorem vRs_eq {e : Expr} {x : Str} (h : vRs e = some x) : ∃ p z k p2 q, e = .Call (.Name x p) [.Constant (.str z) k p2] [] q := by
  unfold vRs at h
  split at h
  · simp only [Option.some.injEq] at h; subst h; exact ⟨_, _, _, _, _, rfl⟩
  · cases h
theorem vName2_eq {l : List Expr} {x y : Str} (h : vName2 l = some (x, y)) : ∃ p q, l = [.Name x p, .Name y q] := by
  unfold vName2 at h
  split at h
  · simp only [Option.some.injEq, Prod.mk.injEq] at h; obtain ⟨rfl, rfl⟩ := h; exact ⟨_, _, rfl⟩
  · cases h
theorem vName3_eq {l : List Expr} {x y z : Str} (h : vName3 l = some (x, y, z)) : ∃ p q r, l = [.Name x p, .Name y q, .Name z r] := by
  unfold vName3 at h
  split at h
  · simp only [Option.some.injEq, Prod.mk.injEq] at h; obtain ⟨rfl, rfl, rfl⟩ := h; exact ⟨_, _, _, rfl⟩
  · cases h

theorem asg_read {tg : Tg} {e : IE} {D : Ends} {σ : L2.St} {H : Hp} (h : tS g W (evS E (.asg tg e)) D σ H) : tAsg (tE g W (evE E e)) (tG g tg) D σ H := by
  obtain ⟨fb, m, ρ, S, o, rs, eq, Gd⟩ := h
  simp only [evS] at eq
  refine tS_bnd eq rs Gd fun t S1 v m1 H1 e1 x1 rs1 r1 Gd1 => ?_
  split at e1
  · rename_i ρ' hb
    simp only [Option.some.injEq] at e1
    subst e1
    exact ⟨fb, m1, t, ρ, ρ', S1, rs1, r1, hb, fun σ' rs' _ => Gd1 σ' m1 H1 (Ext.refl _ _) rs'⟩
  · cases e1

/-- a comprehension's list goes to its name -/
theorem ps_swc {i : Nat} {x : Str} {v : Expr} {px p : Pos} {e : IE} (so : SOk G g E W X) (hi : G.N[i]? = some x) (hc : chkE G e v = true) (hs : swC G x px.line v = true) : PS X (.Assign [.Name x px] v p) (tS g W (evS E (.asg (.nm i) e))) := by
  have xo := so.xo
  cases v <;> try (cases hs; done)
  rename_i elt gs scope pos
  simp only [swC, Bool.and_eq_true, Bool.not_eq_true', isKind, decide_eq_true_eq] at hs
  obtain ⟨⟨h1, h2⟩, h3⟩ := hs
  have key : ∃ bx own elt' tg src cnd, e = .lc bx own elt' tg src cnd := by
    cases e <;> simp only [chkE] at hc <;> first
      | exact ⟨_, _, _, _, _, _, rfl⟩
      | (exfalso; revert hc; simp [lits, vName, vTup, vLst, vBin, vCmp, vChn, vNeg, vNot, vAnd, vOr, vIfE, vIx, vSl, vRev, vCall, vMth]; done)
      | skip
    rename_i vv
    exfalso
    revert hc
    cases vv <;> simp [lits, vConst, vName]
  obtain ⟨bx, own, elt', tg, src, cnd, rfl⟩ := key
  obtain ⟨x', t, it, cs, scope', q, wi, tt, ow, he, ho, k1, k2, k3, k4, k5, k6, k7⟩ := lc_parts xo (sound elt') (sound src) (sound cnd) hc
  cases he
  have hN : X.N.Nodup := by rw [xo.N]; exact xo.nd
  have hi' : X.N[i]? = some x := by rw [xo.N]; exact hi
  have hl : X.env.scope.names.lookup x = some .local := by rw [xo.sc]; exact h1
  refine (ps_setLc (i := i) xo.calm hN hi' hl (sw_true so.kd hl h2 h3) k1 k2 k3 k4 k5 k6).of fun D σ H h => ?_
  obtain ⟨fb, m, ρ, S, o, rs, eq, Gd⟩ := h
  simp only [evS] at eq
  rw [ho]
  refine k7 σ H _ (tS_bnd (f := evE E (.lc bx own elt' tg src cnd)) eq rs Gd fun t S1 v m1 H1 e1 x1 rs1 r1 Gd1 => ?_)
  simp only [bindT, Option.some.injEq] at e1
  subst e1
  exact Gd1 _ m1 H1 (Ext.refl _ _) ⟨rs1.env.set i r1, rs1.sto⟩

structure SndS (g : GW) (E : EV) (st : IS) : Prop where
  s : ∀ (G : Gm) (W : WX) (X : Cx), SOk G g E W X → ∀ s, chkS G st s = true → PS X s (tS g W (evS E st))
  b : ∀ (G : Gm) (W : WX) (X : Cx), SOk G g E W X → ∀ l, chkB G st l = true → PSs X l (tS g W (evS E st))
theorem snd_s {st : IS} (h : ∀ (G : Gm) (W : WX) (X : Cx), SOk G g E W X → ∀ s, chkS G st s = true → PS X s (tS g W (evS E st))) (hb : ∀ G l, chkB G st l = false) : SndS g E st :=
  ⟨h, fun G W X _ l q => (by rw [hb] at q; cases q)⟩

theorem soundS : ∀ st : IS, SndS g E st := by
  intro st
  induction st with
  | skip =>
    refine ⟨fun G W X so s h => (by simp [chkS] at h), fun G W X so l h => ?_⟩
    simp only [chkB, List.isEmpty_iff] at h
    subst h
    refine pss_nil.of fun D σ H ⟨fb, m, ρ, S, o, rs, e, Gd⟩ => ?_
    simp only [evS, Option.some.injEq] at e
    subst e
    exact Gd σ m H (Ext.refl _ _) rs
  | seq a b iha ihb =>
    refine ⟨fun G W X so s h => (by simp [chkS] at h), fun G W X so l h => ?_⟩
    simp only [chkB] at h
    split at h
    · rename_i s r
      simp only [Bool.and_eq_true] at h
      refine (pss_cons (iha.s G W X so s h.1) (ihb.b G W X so r h.2)).of fun D σ H ⟨fb, m, ρ, S, o, rs, e, Gd⟩ => ?_
      simp only [evS] at e
      cases ea : evS E a ρ S with
      | none => rw [ea] at e; cases e
      | some q =>
        rw [ea] at e
        refine ⟨fb, m, ρ, S, q, rs, ea, ?_⟩
        cases q with
        | nx ρ' S' => exact fun σ' m' H' x rs' => ⟨fb, m', ρ', S', o, rs', e, Gd.ext x⟩
        | _ =>
          have := (Option.some.inj e).symm
          subst this
          exact Gd
    · cases h
  | pass =>
    refine snd_s (fun G W X so s h => ?_) fun _ _ => by simp [chkB]
    simp only [chkS] at h
    split at h
    · rename_i hv
      obtain ⟨p, rfl⟩ := vS_pass hv
      refine ps_pass.of fun D σ H ⟨fb, m, ρ, S, o, rs, e, Gd⟩ => ?_
      simp only [evS, Option.some.injEq] at e
      subst e
      exact Gd σ m H (Ext.refl _ _) rs
    · cases h
  | brk =>
    refine snd_s (fun G W X so s h => ?_) fun _ _ => by simp [chkB]
    simp only [chkS] at h
    split at h
    · rename_i hv
      obtain ⟨p, rfl⟩ := vS_brk hv
      refine ps_break.of fun D σ H ⟨fb, m, ρ, S, o, rs, e, Gd⟩ => ?_
      simp only [evS, Option.some.injEq] at e
      subst e
      exact Gd σ m H (Ext.refl _ _) rs
    · cases h
  | cnt =>
    refine snd_s (fun G W X so s h => ?_) fun _ _ => by simp [chkB]
    simp only [chkS] at h
    split at h
    · rename_i hv
      obtain ⟨p, rfl⟩ := vS_cnt hv
      refine ps_continue.of fun D σ H ⟨fb, m, ρ, S, o, rs, e, Gd⟩ => ?_
      simp only [evS, Option.some.injEq] at e
      subst e
      exact Gd σ m H (Ext.refl _ _) rs
    · cases h
  | ret e =>
    refine snd_s (fun G W X so s h => ?_) fun _ _ => by simp [chkB]
    simp only [chkS] at h
    split at h
    · rename_i x hv
      obtain ⟨p, rfl⟩ := vS_ret hv
      refine (ps_ret ((sound e).e G W X so.xo x h).1).of fun D σ H ⟨fb, m, ρ, S, o, rs, eq, Gd⟩ => ?_
      simp only [evS] at eq
      refine tS_bnd eq rs Gd fun t S1 v m1 H1 e1 x1 rs1 r1 Gd1 => ?_
      simp only [Option.some.injEq] at e1
      subst e1
      exact Gd1 v m1 H1 (Ext.refl _ _) rs1.sto r1
    · rename_i hv
      obtain ⟨p, rfl⟩ := vS_ret hv
      split at h
      · refine ps_retN.of fun D σ H ⟨fb, m, ρ, S, o, rs, eq, Gd⟩ => ?_
        simp only [evS, evE, bndS, Option.some.injEq] at eq
        subst eq
        exact Gd .non m H (Ext.refl _ _) rs.sto Rep.non_
      · cases h
    · cases h
  | expr e =>
    refine snd_s (fun G W X so s h => ?_) fun _ _ => by simp [chkB]
    simp only [chkS] at h
    split at h
    · rename_i x hv
      obtain ⟨p, rfl⟩ := vS_expr hv
      simp only [Bool.and_eq_true] at h
      refine (ps_expr ((sound e).e G W X so.xo x h.1).1 (nocomp_sw h.2)).of fun D σ H ⟨fb, m, ρ, S, o, rs, eq, Gd⟩ => ?_
      simp only [evS] at eq
      refine tS_bnd eq rs Gd fun t S1 v m1 H1 e1 x1 rs1 r1 Gd1 => ?_
      simp only [Option.some.injEq] at e1
      subst e1
      exact Gd1 σ m1 H1 (Ext.refl _ _) rs1
    · cases h
  | asg tg e =>
    refine snd_s (fun G W X so s h => ?_) fun _ _ => by simp [chkB]
    simp only [chkS] at h
    split at h
    · rename_i t v l hv
      obtain ⟨p, rfl, rfl⟩ := vS_asg hv
      simp only [Bool.and_eq_true] at h
      obtain ⟨h1, h2, h3⟩ := h
      have xo := so.xo
      have pe := ((sound (g := g) (E := E) e).e G W X xo v h2).1
      have pg := (pg_sound xo.N xo.nd xo.sc xo.calm xo.K xo.fn tg).1 t h1
      split at h3
      · rename_i x hn
        obtain ⟨px, rfl⟩ := vName_eq hn
        rcases Bool.or_eq_true_iff.mp h3 with h3 | h3
        · refine (ps_asg pe pg (nocomp_sole h3) (by cases v <;> rfl) rfl).of fun D σ H z => asg_read z
        · cases tg with
          | nm i =>
            simp only [chkT, vName, Bool.and_eq_true, decide_eq_true_eq] at h1
            exact ps_swc so h1.1 h2 h3
          | tp a => simp [chkT, vTup] at h1
          | nl => simp [chkT] at h1
          | cn a b => simp [chkT] at h1
      · split at h3
        · rename_i ts ht
          obtain ⟨k, p2, rfl⟩ := vTup_eq ht
          simp only [Bool.and_eq_true] at h3
          exact (ps_asg pe pg (nocomp_sole h3.1) (asOne_ok xo.sc so.kd h3.2) rfl).of fun D σ H z => asg_read z
        · cases h3
    · cases h
  | par2 i j es =>
    refine snd_s (fun G W X so s h => ?_) fun _ _ => by simp [chkB]
    simp only [chkS] at h
    split at h
    · rename_i t v l hv
      obtain ⟨p, rfl, rfl⟩ := vS_asg hv
      split at h
      · rename_i ts ht
        obtain ⟨k1, p1, rfl⟩ := vTup_eq ht
        split at h
        · rename_i vs hvs
          obtain ⟨k2, p2, rfl⟩ := vTup_eq hvs
          split at h
          · rename_i x y hxy
            obtain ⟨q1, q2, rfl⟩ := vName2_eq hxy
            simp only [Bool.and_eq_true, decide_eq_true_eq, isKind] at h
            obtain ⟨h1, h2, h3, h4, h5, h6, h7, h8⟩ := h
            have xo := so.xo
            obtain ⟨a, b, rfl⟩ : ∃ a b, vs = [a, b] := by
              match vs, h8 with
              | [a, b], _ => exact ⟨a, b, rfl⟩
            have pa := (sound (g := g) (E := E) es).a G W X xo _ h7
            refine (ps_par (i := i) (j := j) xo.calm (by rw [xo.N]; exact xo.nd) (by rw [xo.N]; exact h1) (by rw [xo.N]; exact h2) h3 (by rw [xo.sc]; exact h4) (by rw [xo.sc]; exact h5) pa (swN_ok so.kd (by rw [xo.sc]; exact h6)) rfl).of fun D σ H ⟨fb, m, ρ, S, o, rs, eq, Gd⟩ => ?_
            simp only [evS] at eq
            refine tS_args eq rs Gd fun t S1 e1 => ?_
            split at e1
            · rename_i t1 t2
              simp only [Option.some.injEq] at e1
              subst e1
              refine ⟨_, rfl, fun us m1 H1 x1 rs1 rp Gd1 => ?_⟩
              obtain ⟨u1, u2, rfl, r1, r2⟩ := rp.two
              exact ⟨u1, u2, rfl, Gd1 _ m1 H1 (Ext.refl _ _) ⟨(rs1.env.set i r1).set j r2, rs1.sto⟩⟩
            · cases e1
          · cases h
        · cases h
      · cases h
    · cases h
  | par3 i j kk es =>
    refine snd_s (fun G W X so s h => ?_) fun _ _ => by simp [chkB]
    simp only [chkS] at h
    split at h
    · rename_i t v l hv
      obtain ⟨p, rfl, rfl⟩ := vS_asg hv
      split at h
      · rename_i ts ht
        obtain ⟨k1, p1, rfl⟩ := vTup_eq ht
        split at h
        · rename_i vs hvs
          obtain ⟨k2, p2, rfl⟩ := vTup_eq hvs
          split at h
          · rename_i x y z hxy
            obtain ⟨q1, q2, q3, rfl⟩ := vName3_eq hxy
            simp only [Bool.and_eq_true, decide_eq_true_eq, isKind] at h
            obtain ⟨h1, h2, h2', h3, h3', h3'', h4, h5, h5', h6, h7, h8⟩ := h
            have xo := so.xo
            obtain ⟨a, b, c, rfl⟩ : ∃ a b c, vs = [a, b, c] := by
              match vs, h8 with
              | [a, b, c], _ => exact ⟨a, b, c, rfl⟩
            have pa := (sound (g := g) (E := E) es).a G W X xo _ h7
            refine (ps_par3 (i := i) (j := j) (l := kk) xo.calm (by rw [xo.N]; exact xo.nd) (by rw [xo.N]; exact h1) (by rw [xo.N]; exact h2) (by rw [xo.N]; exact h2') h3 h3' h3'' (by rw [xo.sc]; exact h4) (by rw [xo.sc]; exact h5) (by rw [xo.sc]; exact h5') pa (swN_ok so.kd (by rw [xo.sc]; exact h6)) rfl).of fun D σ H ⟨fb, m, ρ, S, o, rs, eq, Gd⟩ => ?_
            simp only [evS] at eq
            refine tS_args eq rs Gd fun t S1 e1 => ?_
            split at e1
            · rename_i t1 t2 t3
              simp only [Option.some.injEq] at e1
              subst e1
              refine ⟨_, rfl, fun us m1 H1 x1 rs1 rp Gd1 => ?_⟩
              simp only [RepL] at rp
              obtain ⟨u1, _, rfl, r1, u2, _, rfl, r2, u3, _, rfl, r3, rfl⟩ := rp
              exact ⟨u1, u2, u3, rfl, Gd1 _ m1 H1 (Ext.refl _ _) ⟨((rs1.env.set i r1).set j r2).set kk r3, rs1.sto⟩⟩
            · cases e1
          · cases h
        · cases h
      · cases h
    · cases h
  | sub o i e =>
    refine snd_s (fun G W X so s h => ?_) fun _ _ => by simp [chkB]
    simp only [chkS] at h
    split at h
    · rename_i t v l hv
      obtain ⟨p, rfl, rfl⟩ := vS_asg hv
      split at h
      · rename_i x y ht
        obtain ⟨p2, rfl, has⟩ := vSub_eq ht
        simp only [Bool.and_eq_true] at h
        obtain ⟨h1, h2, h3⟩ := h
        have xo := so.xo
        have hs : swapsWithSole [.Subscript x y p2] v p.line X.env = pure false := by
          show swapsWith v (some (.Subscript x y p2)) p.line X.env = pure false
          cases v <;> rfl
        have hw : swappedStores [.Subscript x y p2] v X.env = pure none := by cases v <;> rfl
        refine (ps_asg ((sound (g := g) (E := E) e).e G W X xo v h3).1 (pg_sub ((sound (g := g) (E := E) o).e G W X xo x h1).1 ((sound (g := g) (E := E) i).e G W X xo y h2).1 (set_wsub (g := g)) (has X.env)) hs hw rfl).of fun D σ H ⟨fb, m, ρ, S, o', rs, eq, Gd⟩ => ?_
        simp only [evS] at eq
        refine tS_bnd eq rs Gd fun t S1 v1 m1 H1 e1 x1 rs1 r1 Gd1 => ?_
        refine tS_bnd e1 rs1 Gd1 fun t2 S2 v2 m2 H2 e2 x2 rs2 r2 Gd2 => ?_
        refine tS_bnd e2 rs2 Gd2 fun t3 S3 v3 m3 H3 e3 x3 rs3 r3 Gd3 => ?_
        split at e3
        · rename_i S4 hS
          simp only [Option.some.injEq] at e3
          subst e3
          exact ⟨fb, m3, S3, S4, t2, t3, t, rs3.sto, Rep.mono x3 _ r2, r3, Rep.mono x3 _ (Rep.mono x2 _ r1), hS, fun m' H' x' sr' => Gd3 σ m' H' x' ⟨rs3.env.mono x', sr'⟩⟩
        · cases e3
      · cases h
    · cases h
  | app o e =>
    refine snd_s (fun G W X so s h => ?_) fun _ _ => by simp [chkB]
    simp only [chkS] at h
    split at h
    · rename_i x hv
      obtain ⟨p, rfl⟩ := vS_expr hv
      split at h
      · rename_i ob n y hm
        obtain ⟨ap, pos, rfl, hl⟩ := vMth_eq hm
        simp only [Bool.and_eq_true, beq_iff_eq] at h
        obtain ⟨rfl, h2, h3, h4, h5⟩ := h
        have xo := so.xo
        have po := ((sound (g := g) (E := E) o).e G W X xo ob h4).1
        have pe := ((sound (g := g) (E := E) e).e G W X xo y h5).1
        have pm := pe_bm (apos := ap) (cpos := pos) PySem.F.plainAttrs_list PySem.F.slot_list_append PySem.F.type_list_append (mt_wapp (X := X) (g := g)) po (pa_cons pe pa_nil (starEach_cons h3)) (nosup h2) (by rw [star1 h3]; rfl) hl (starEach_cons h3) rfl
        refine (ps_expr pm rfl).of fun D σ H ⟨fb, m, ρ, S, o', rs, eq, Gd⟩ => ?_
        simp only [evS] at eq
        refine tS_bnd eq rs Gd fun t1 S1 v1 m1 H1 e1 x1 rs1 r1 Gd1 => ?_
        split at e1
        · rename_i hb
          have ty : tyV X.K "list" v1 H1 := by
            unfold isLst at hb
            split at hb
            · rename_i nn
              split at hb
              · rename_i l hl
                have r1' := r1
                simp only [Rep] at r1'
                obtain ⟨a, k1, rfl⟩ := r1'
                obtain ⟨vs, q1, _⟩ := rs1.sto.at_ nn _ a hl k1
                exact .inl ⟨rfl, vs, SqL.of q1⟩
              · cases hb
            · cases hb
          refine ⟨ty, tS_bnd e1 rs1 Gd1 fun t2 S2 v2 m2 H2 e2 x2 rs2 r2 Gd2 => ?_⟩
          split at e2
          · rename_i S3 hS
            simp only [Option.some.injEq] at e2
            subst e2
            exact ⟨fb, m2, S2, S3, t1, t2, v2, rfl, rs2.sto, Rep.mono x2 _ r1, r2, hS, fun m' H' x' sr' => Gd2 σ m' H' x' ⟨rs2.env.mono x', sr'⟩⟩
          · cases e2
        · cases e1
      · cases h
    · cases h
  | iff c a b iha ihb =>
    refine snd_s (fun G W X so s h => ?_) fun _ _ => by simp [chkB]
    simp only [chkS] at h
    split at h
    · rename_i x p q hv
      obtain ⟨ps, rfl⟩ := vS_iff hv
      simp only [Bool.and_eq_true] at h
      obtain ⟨h1, h2, h3, h4⟩ := h
      refine (ps_if (((sound (g := g) (E := E) c).e G W X so.xo x h1).2 h2) (iha.b G W X so p h3) (ihb.b G W X so q h4)).of fun D σ H ⟨fb, m, ρ, S, o, rs, eq, Gd⟩ => ?_
      simp only [evS] at eq
      refine tS_tst eq rs Gd fun t S1 e1 => ?_
      split at e1
      · rename_i hb
        exact ⟨true, hb, fun m1 H1 x1 rs1 Gd1 => iteT ⟨fb, m1, ρ, S1, o, rs1, e1, Gd1⟩⟩
      · rename_i hb
        exact ⟨false, hb, fun m1 H1 x1 rs1 Gd1 => iteF ⟨fb, m1, ρ, S1, o, rs1, e1, Gd1⟩⟩
      · cases e1
    · cases h
  | for_ tg src b ihb =>
    refine snd_s (fun G W X so s h => ?_) fun _ _ => by simp [chkB]
    simp only [chkS] at h
    split at h
    · rename_i t it p hv
      obtain ⟨ps, rfl⟩ := vS_for hv
      simp only [Bool.and_eq_true] at h
      obtain ⟨h1, h2, h3, h4, h5⟩ := h
      have xo := so.xo
      exact (ps_for so.po xo.calm ((sound (g := g) (E := E) src).i G W X xo t it h2 h3) ((pg_sound xo.N xo.nd xo.sc xo.calm xo.K xo.fn tg).1 t h1) (ihb.b G W X so p h5) (noset_fold h4)).of fun D σ H z => for_read z
    · cases h
  | whl c b ihb =>
    refine snd_s (fun G W X so s h => ?_) fun _ _ => by simp [chkB]
    simp only [chkS] at h
    split at h
    · rename_i x p hv
      obtain ⟨ps, rfl⟩ := vS_whl hv
      simp only [Bool.and_eq_true] at h
      obtain ⟨h1, h2, h3⟩ := h
      exact (ps_while so.po (((sound (g := g) (E := E) c).e G W X so.xo x h1).2 h2) (ihb.b G W X so p h3)).of fun D σ H z => whl_read z
    · cases h
  | rs c =>
    refine snd_s (fun G W X so s h => ?_) fun _ _ => by simp [chkB]
    simp only [chkS] at h
    split at h
    · rename_i e hv
      obtain ⟨ps, rfl⟩ := vS_rs hv
      split at h
      · rename_i x hx
        obtain ⟨p, z, k, p2, q, rfl⟩ := vRs_eq hx
        simp only [Bool.and_eq_true] at h
        obtain ⟨gl, db⟩ := glb_gl so.xo h.2
        obtain ⟨B, n1, n2, bm, F, h1, h2, h3, h4⟩ := so.exc c x (isNm_eq h.1)
        refine (ps_raise so.xo.calm so.xo.tk (pmk_own F h1 h2 h3 h4 gl db)).of fun D σ H ⟨fb, m, ρ, S, o, rs, eq, Gd⟩ => ?_
        simp only [evS, Option.some.injEq] at eq
        subst eq
        exact Gd _ _ σ m H (Ext.refl _ _) rs ⟨rfl, rfl, rfl⟩
      · cases h
    · cases h
end
end Fw

namespace Fw
open PySem L2 PyProof.Rows

/-! ### a def's end: what it has made and does not hand out is forgotten -/
section
variable {g : GW}
mutual
theorem Rep.cut {m l : List Addr} {H : Hp} : ∀ (t : T) {v : V}, noBx m.length t = true → Rep g (m ++ l) H t v → Rep g m H t v
  | .non, v, _, h => by simpa only [Rep] using h
  | .bl b, v, _, h => by simpa only [Rep] using h
  | .int i, v, _, h => by simpa only [Rep] using h
  | .str s, v, _, h => by simpa only [Rep] using h
  | .fn f, v, _, h => by simpa only [Rep] using h
  | .box n, v, hn, h => by
    simp only [Rep] at h ⊢
    simp only [noBx, decide_eq_true_eq] at hn
    obtain ⟨a, h1, h2⟩ := h
    rw [List.getElem?_append_left hn] at h1
    exact ⟨a, h1, h2⟩
  | .scr ns, v, _, h => by
    simp only [Rep] at h ⊢
    obtain ⟨a, h1, h2⟩ := h
    refine ⟨a, h1, ?_⟩
    rcases h2 with ⟨q, r⟩ | h2
    · exact .inl ⟨fun z => q (List.mem_append_left _ z), r⟩
    · exact .inr h2
  | .tup ts, v, hn, h => by
    simp only [Rep] at h ⊢
    simp only [noBx] at hn
    obtain ⟨a, vs, h1, h2, h3⟩ := h
    refine ⟨a, vs, h1, ?_, RepL.cut ts hn h3⟩
    rcases h2 with ⟨q, r⟩ | h2
    · exact .inl ⟨fun z => q (List.mem_append_left _ z), r⟩
    · exact .inr h2
  | .lst ts, v, hn, h => by
    simp only [Rep] at h ⊢
    simp only [noBx] at hn
    obtain ⟨a, vs, h1, h2, h3, h4, h5⟩ := h
    exact ⟨a, vs, h1, fun z => h2 (List.mem_append_left _ z), h3, h4, RepL.cut ts hn h5⟩
theorem RepL.cut {m l : List Addr} {H : Hp} : ∀ (ts : List T) {vs : List V}, noBxL m.length ts = true → RepL g (m ++ l) H ts vs → RepL g m H ts vs
  | [], vs, _, h => by simpa only [RepL] using h
  | t :: ts, vs, hn, h => by
    simp only [RepL] at h ⊢
    simp only [noBxL, Bool.and_eq_true] at hn
    obtain ⟨v, r, h1, h2, h3⟩ := h
    exact ⟨v, r, h1, Rep.cut t hn.1 h2, RepL.cut ts hn.2 h3⟩
end
theorem ObR.cut {m l : List Addr} {H : Hp} {ob : Ob} {a : Addr} (hn : noBxO m.length ob = true) (h : ObR g (m ++ l) H ob a) : ObR g m H ob a := by
  cases ob with
  | lst k => obtain ⟨vs, e, r⟩ := h; exact ⟨vs, e, RepL.cut k hn r⟩
  | _ => exact h.elim
theorem SRep.cut {m l : List Addr} {H : Hp} {S : Sto} (sr : SRep g (m ++ l) H S) (hn : (S.take m.length).all (noBxO m.length) = true) (hl : m.length ≤ S.length) : SRep g m H (S.take m.length) := by
  refine ⟨by simp [hl], ?_, fun n ob a h1 h2 => ?_, fun a ha => ?_⟩
  · exact (List.nodup_append.mp sr.nd).1
  · have hlt : n < m.length := (List.getElem?_eq_some_iff.mp h2).1
    rw [List.getElem?_take_of_lt hlt] at h1
    have z := sr.at_ n ob a h1 (by rw [List.getElem?_append_left hlt]; exact h2)
    refine z.cut ?_
    refine List.all_eq_true.mp hn ob (List.mem_of_getElem? (i := n) ?_)
    rw [List.getElem?_take_of_lt hlt]; exact h1
  · obtain ⟨z1, z2⟩ := sr.fbs a ha
    exact ⟨z1, fun z => z2 (List.mem_append_left _ z)⟩
theorem Ext.cut {m l : List Addr} {H H' : Hp} (x : Ext m H (m ++ l) H') : Ext m H m H' := ⟨⟨[], by simp, by simp⟩, x.keep, x.there⟩

theorem fin1_ok {m : List Addr} {H : Hp} {Q : VK} {E : XK} {t : T} {S' : Sto} {b : Nat} (hb : m.length = b) (G : GoodC g m H Q E (fin1 b t S')) : GoodC g m H Q E (.ok t S') := by
  subst hb
  intro v m' H' x sr r
  unfold fin1 at G
  split at G
  · exact G v m' H' x sr r
  · rename_i hl
    split at G
    · rename_i hn
      simp only [Bool.and_eq_true] at hn
      obtain ⟨l, rfl, hf⟩ := x.grow
      refine G v m H' x.cut (sr.cut hn.2 (by omega)) ?_
      have h1 := hn.1
      revert h1
      unfold thaw
      split
      · rename_i n
        split
        · rename_i hbn
          split
          · rename_i k hk
            intro h1
            simp only [Rep] at r
            obtain ⟨a, e1, rfl⟩ := r
            obtain ⟨vs, q1, rl⟩ := sr.at_ n _ a hk e1
            simp only [noBx] at h1
            simp only [Rep]
            refine ⟨a, vs, rfl, fun z => ?_, fun z => ?_, q1, RepL.cut k h1 rl⟩
            · obtain ⟨i, hi, ei⟩ := List.mem_iff_getElem.mp z
              have e2 : (m ++ l)[i]? = some a := by
                rw [List.getElem?_append_left hi, List.getElem?_eq_getElem hi, ei]
              have := nd_ix sr.nd e1 e2
              omega
            · exact (sr.fbs a z).2 (List.mem_of_getElem? e1)
          · intro h1
            exact Rep.cut _ h1 r
        · intro h1
          exact Rep.cut _ h1 r
      · intro h1
        exact Rep.cut _ h1 r
    · exact G v m' H' x sr r
theorem finE_ok {m : List Addr} {H : Hp} {Q : VK} {E : XK} {c : Nat} {p : Option T} {S' : Sto} {b : Nat} (hb : m.length = b) (G : GoodC g m H Q E (finE b c p S')) : GoodC g m H Q E (.ex c p S') := by
  subst hb
  intro cls d m' H' x sr r
  unfold finE at G
  split at G
  · exact G cls d m' H' x sr r
  · rename_i hl
    split at G
    · rename_i hn
      obtain ⟨l, rfl, hf⟩ := x.grow
      exact G cls d m H' x.cut (sr.cut hn (by omega)) r
    · exact G cls d m' H' x sr r

/-- what a body is to reach, from what the def is to reach -/
theorem goodS_of {W : WX} {m : List Addr} {H : Hp} {Q : VK} {E : XK} {kp : Bool} {b : Nat} {o : OutS} {r : Out} (hb : m.length = b) (hW : ∀ cls d σ H', E cls d H' → W cls d σ H') (e : fin kp b (some o) = some r) (G : GoodC g m H Q E r) :
    GoodS g W m H { nx := fun _ H' => Q .non H', rt := Q } o := by
  cases o with
  | rt t S =>
    simp only [fin, Option.some.injEq] at e
    subst e
    cases kp with
    | true => exact G
    | false => exact fin1_ok hb G
  | nx ρ S =>
    simp only [fin, Option.some.injEq] at e
    subst e
    intro σ m' H' x rs
    cases kp with
    | true => exact G .non m' H' x rs.sto Rep.non_
    | false => exact fin1_ok hb G .non m' H' x rs.sto Rep.non_
  | ex c p ρ S =>
    simp only [fin, Option.some.injEq] at e
    subst e
    intro cls d σ m' H' x rs xr
    refine hW cls d σ H' ?_
    cases kp with
    | true => exact G cls d m' H' x rs.sto xr
    | false => exact finE_ok hb G cls d m' H' x rs.sto xr
  | bk ρ S => cases e
  | ct ρ S => cases e
end

/-! ### the defs of a text -/
structure DI where
  x : Str
  st : Stmt
  N : List Str
  ps : List Str
  fd : FD
structure LW where
  ds : List DI
  cn : List Str
  en : List Str
  blt : List Str
  prg : Prg
def LW.gm (L : LW) (d : DI) : Gm := { N := d.N, sc := defScope d.st, fnT := true, fname := fun f => (L.ds[f]?).map (·.x), cname := fun c => L.cn[c]?, ename := fun c => L.en[c]?, blt := L.blt }
def scB (N P : List Str) (sc : Scope) : Bool :=
  decide (sc.kind = .function) && !sc.isCoroutine && !sc.isGenerator && decide N.Nodup && decide (N.take P.length = P) && P.all (fun x => decide (sc.names.lookup x = some .local) || decide (sc.names.lookup x = some .cell)) && sc.names.all (fun y => !decide (y.2 = .free))
theorem scB_ok {N P : List Str} {sc : Scope} (h : scB N P sc = true) : FnScope N P sc := by
  unfold scB at h
  simp only [Bool.and_eq_true, Bool.not_eq_true', decide_eq_true_eq, List.all_eq_true, Bool.or_eq_true, decide_eq_false_iff_not] at h
  obtain ⟨⟨⟨⟨⟨⟨h1, h2⟩, h3⟩, h4⟩, h5⟩, h6⟩, h7⟩ := h
  exact ⟨h1, h2, h3, h4, h5, h6, h7⟩
def LW.okD (L : LW) (d : DI) : Bool := scB d.N d.ps (defScope d.st) && (decide (d.ps.length = d.fd.np) && (decide (d.N.length = d.fd.ns) && chkB (L.gm d) d.fd.body (defBody d.st)))

/-- what the top has left of the text -/
structure LF (L : LW) (K : PySem.W.Frag) (mg : Str → Option Value) where
  g : GW
  fdOf : Nat → FuncData
  hK : g.K = K
  fns : ∀ f d, L.ds[f]? = some d → L2.Fun K d.x d.x d.st (g.fa f) (fdOf f) ∧ mg d.x = some (.ref (g.fa f)) ∧ Binds K (fdOf f) d.ps []
  blt : ∀ x, x ∈ L.blt → mg x = none
  cst : ∀ c x, L.cn[c]? = some x → ∃ u v, mg x = some u ∧ L2.RelV v u ∧ ∀ fb m H, Rep (g.w fb) m H (L.prg.cv c) v
  exc : ∀ c x, L.en[c]? = some x → ∃ (B newId initId : String) (bmB : List Value), ExcBaseFacts B newId initId bmB ∧ PySem.W.excIn K (g.ea c) bmB newId = true ∧ mg x = some (.ref (g.ea c)) ∧ PySem.W.keepIn K (.ref (g.ea c)) = true ∧
    PySem.W.subIn K (.ref (g.ea c)) (.type "BaseException") = some true ∧ PySem.W.typeIn K (.ref (g.ea c)) = some (.type "type")

theorem run_len {P : Prg} {n f : Nat} {ts : List T} {S : Sto} {o : Out} {fd : FD} (h : run P n f ts S = some o) (hf : P.tab f = some fd) : ts.length = fd.np := by
  cases n with
  | zero => cases h
  | succ n =>
    simp only [run, hf] at h
    split at h
    · rename_i q; simpa using q
    · cases h

theorem fn_all {L : LW} {P : Program} {w : World} {K : PySem.W.Frag} {mg : Str → Option Value} {base : Heap} (F : LF L K mg) (ht : ∀ f, L.prg.tab f = (L.ds[f]?).map (·.fd)) (hc : L.ds.all L.okD = true) :
    ∀ n f d, L.ds[f]? = some d → FnOk P w K mg base (L2.CX P w) n (F.g.fa f) (F.fdOf f) d.ps (spF F.g (run L.prg n) f d.ps.length) := by
  intro n
  induction n with
  | zero =>
    intro f d hd
    exact ⟨fun vs H Q E h => h.1, fun A outer s H args us vs Q E _ _ _ _ h => by
      obtain ⟨_, fb, m, S, ts, o, _, _, e, _⟩ := h
      cases e⟩
  | succ n ih =>
    intro f d hd
    obtain ⟨Fu, hm, hb⟩ := F.fns f d hd
    have ok := List.all_eq_true.mp hc d (List.mem_of_getElem? hd)
    simp only [LW.okD, Bool.and_eq_true, decide_eq_true_eq] at ok
    obtain ⟨o1, o2, o3, o4⟩ := ok
    have S := scB_ok o1
    refine Fu.okX S (fun vs H Q E h => h.1) (fun cdv A outer s H vs Q E hr h => ?_)
    obtain ⟨hl, fb, m, S0, ts, o, rp, sr, e, Gd⟩ := h
    -- the context
    have hx : (cxOf (L2.CX P w) P w K mg base d.N d.x (defScope d.st) (F.g.fa f) cdv A outer s H E).xe = fun e s' => wpAny (model P w) (A.deeper (envOfC d.x (defScope d.st) s.heap.objs.size (F.g.fa f) cdv)) (leaving (envOfC d.x (defScope d.st) s.heap.objs.size (F.g.fa f) cdv) e) (fun _ s'' => L2.CX P w outer H s E e s'') (fun e' s'' => L2.CX P w outer H s E e' s'') s' := rfl
    have so : SOk (L.gm d) F.g ⟨run L.prg n, L.prg.cv, L.prg.lam, L.prg.wf⟩ (fun cls d _ H => E cls d H) (cxOf (L2.CX P w) P w K mg base d.N d.x (defScope d.st) (F.g.fa f) cdv A outer s H E) := by
      refine ⟨⟨rfl, S.nd, rfl, F.hK.symm, rfl, fun _ _ => rfl, takes_of rfl rfl rfl rfl, hr.units, F.blt, fun f2 x2 h2 => ?_, F.cst⟩, passes_of rfl, S.kind, fun c x h => ?_⟩
      · simp only [LW.gm, Option.map_eq_some_iff] at h2
        obtain ⟨d2, hd2, rfl⟩ := h2
        obtain ⟨Fu2, hm2, hb2⟩ := F.fns f2 d2 hd2
        have ok2 := List.all_eq_true.mp hc d2 (List.mem_of_getElem? hd2)
        simp only [LW.okD, Bool.and_eq_true, decide_eq_true_eq] at ok2
        exact ⟨n, F.fdOf f2, d2.ps, ih f2 d2 hd2, hr, hm2, Fu2.kp, hb2, fun ts S o q => by
          rw [ok2.2.1]
          exact run_len q (by rw [ht, hd2]; rfl)⟩
      · obtain ⟨B, n1, n2, bm, h1, h2, h3, h4, h5, h6⟩ := F.exc c x h
        exact ⟨B, n1, n2, bm, h1, h2, h3, h4, raises_own h5 h6⟩
    refine ⟨_, (soundS d.fd.body).b _ _ _ so (defBody d.st) o4, ?_⟩
    -- its reading
    have hf : L.prg.tab f = some d.fd := by rw [ht, hd]; rfl
    have hts : ts.length = d.fd.np := run_len e hf
    simp only [run, hf, hts, beq_self_eq_true, if_true] at e
    cases ev : evS ⟨run L.prg n, L.prg.cv, L.prg.lam, L.prg.wf⟩ d.fd.body (init d.fd ts) S0 with
    | none => rw [ev] at e; cases e
    | some o' =>
      rw [ev] at e
      refine ⟨fb, m, init d.fd ts, S0, o', ⟨⟨?_, fun i t q => ?_⟩, sr⟩, ev, goodS_of sr.len (fun _ _ _ _ z => z) e Gd⟩
      · have := rp.length
        simp only [L2.start, init, List.length_append, List.length_map, List.length_replicate]
        omega
      · have hl2 := rp.length
        unfold init at q
        by_cases hi : i < ts.length
        · rw [List.getElem?_append_left (by simpa using hi), List.getElem?_map] at q
          simp only [Option.map_eq_some_iff, Option.some.injEq] at q
          obtain ⟨t', q1, rfl⟩ := q
          obtain ⟨v, e1, e2⟩ := rp.get q1
          refine ⟨v, ?_, e2⟩
          unfold L2.start
          rw [List.getElem?_append_left (by simpa [← hl2] using hi), List.getElem?_map, e1]
          rfl
        · rw [List.getElem?_append_right (by simpa using hi)] at q
          have := List.mem_of_getElem? q
          simp only [List.mem_replicate, reduceCtorEq, and_false] at this

/-- the law's own promise -/
def spLaw (K : PySem.W.Frag) : Sp := fun vs H Q _ => ∃ (a : Addr) (ns : List Int), vs = [.ref a] ∧ SqL K H a (ns.map V.int) ∧ ns.length ≤ 63 ∧ ∀ H', Q (.bl true) H'
theorem law_ok {L : LW} {P : Program} {w : World} {K : PySem.W.Frag} {mg : Str → Option Value} {base : Heap} (F : LF L K mg) (ht : ∀ f, L.prg.tab f = (L.ds[f]?).map (·.fd)) (hc : L.ds.all L.okD = true) (n f : Nat) (d : DI) (hd : L.ds[f]? = some d) (h1 : d.ps.length = 1)
    (hrun : ∀ ns : List Int, ns.length ≤ 63 → ∃ S, run L.prg n f [.scr ns] [] = some (.ok (.bl true) S)) : FnOk P w K mg base (L2.CX P w) n (F.g.fa f) (F.fdOf f) d.ps (spLaw K) := by
  refine (fn_all F ht hc n f d hd).imp fun vs H Q E h => ?_
  obtain ⟨a, ns, rfl, hS, hlen, k⟩ := h
  obtain ⟨S, hr⟩ := hrun ns hlen
  refine ⟨by rw [h1]; rfl, [], [], [], [.scr ns], .ok (.bl true) S, RepL.cons ?_ RepL.nil, ⟨rfl, by simp, fun n ob a h => by simp at h, fun a h => by simp [GW.w] at h⟩, hr, fun v m' H' _ _ r => ?_⟩
  · simp only [Rep]
    refine ⟨a, rfl, ?_⟩
    rw [← F.hK] at hS
    rcases hS with hS | hS
    · exact .inl ⟨by simp, by simp [GW.w], hS⟩
    · exact .inr hS
  · cases RepD.bl (RepD.of r)
    exact k H'
end Fw

namespace Fw
open PySem L2 PyProof.Rows

/-! ## the small language's turns, for use in plain Lean -/
section
variable {E : EV} {ρ : Rho} {S : Sto}
@[simp] theorem wE_lit {v : T} : evE E (.lit v) ρ S = some (.ok v S) := rfl
@[simp] theorem wE_var {i : Nat} : evE E (.var i) ρ S = (match ρ[i]? with | some (some t) => some (.ok t S) | _ => none) := rfl
@[simp] theorem wE_cst {c : Nat} : evE E (.cst c) ρ S = some (.ok (E.cv c) S) := rfl
@[simp] theorem wE_nil : evE E .nil ρ S = some (.ok (.tup []) S) := rfl
@[simp] theorem wE_cons {a b : IE} : evE E (.cons a b) ρ S = (match (evE E a ρ S) with | some (.ok x S1) => ((match (evE E b ρ S1) with | some (.ok y S2) => (tups y fun l => some (.ok (.tup (x :: l)) S2)) | some (.ex c_ p_ S_) => some (.ex c_ p_ S_) | none => none)) | some (.ex c_ p_ S_) => some (.ex c_ p_ S_) | none => none) := rfl
@[simp] theorem wE_tup {a : IE} : evE E (.tup a) ρ S = (match (evE E a ρ S) with | some (.ok x S1) => (tups x fun l => if l.length ≤ line then some (.ok (.tup l) S1) else none) | some (.ex c_ p_ S_) => some (.ex c_ p_ S_) | none => none) := rfl
@[simp] theorem wE_lst {bx : Bool} {a : IE} : evE E (.lst bx a) ρ S = (match (evE E a ρ S) with | some (.ok x S1) => (tups x fun l => if l.length ≤ line then some (newL bx (.lst l) S1) else none) | some (.ex c_ p_ S_) => some (.ex c_ p_ S_) | none => none) := rfl
@[simp] theorem wE_op {bx : Bool} {o : Operator} {a b : IE} : evE E (.op bx o a b) ρ S = (match (evE E a ρ S) with | some (.ok x S1) => ((match (evE E b ρ S1) with | some (.ok y S2) => (lift bx (bop o (drf S2 x) (drf S2 y)) S2) | some (.ex c_ p_ S_) => some (.ex c_ p_ S_) | none => none)) | some (.ex c_ p_ S_) => some (.ex c_ p_ S_) | none => none) := rfl
@[simp] theorem wE_cmp {o : CmpOp} {a b : IE} : evE E (.cmp o a b) ρ S = (match (evE E a ρ S) with | some (.ok x S1) => ((match (evE E b ρ S1) with | some (.ok y S2) => (liftB (cop S2 o x y) S2) | some (.ex c_ p_ S_) => some (.ex c_ p_ S_) | none => none)) | some (.ex c_ p_ S_) => some (.ex c_ p_ S_) | none => none) := rfl
@[simp] theorem wE_chn {o o' : CmpOp} {a b c : IE} : evE E (.chn o o' a b c) ρ S = (match (evE E a ρ S) with | some (.ok x S1) => ((match (evE E b ρ S1) with | some (.ok y S2) => ((match cop S2 o x y with | some true => (match (evE E c ρ S2) with | some (.ok z S3) => (liftB (cop S3 o' y z) S3) | some (.ex c_ p_ S_) => some (.ex c_ p_ S_) | none => none) | some false => some (.ok (.bl false) S2) | none => none)) | some (.ex c_ p_ S_) => some (.ex c_ p_ S_) | none => none)) | some (.ex c_ p_ S_) => some (.ex c_ p_ S_) | none => none) := rfl
@[simp] theorem wE_neg {a : IE} : evE E (.neg a) ρ S = (match (evE E a ρ S) with | some (.ok x S1) => ((match negT x with | some t => some (.ok t S1) | none => none)) | some (.ex c_ p_ S_) => some (.ex c_ p_ S_) | none => none) := rfl
@[simp] theorem wE_not {a : IE} : evE E (.not a) ρ S = (match (evE E a ρ S) with | some (.ok x S1) => ((match truthy S1 x with | some b => some (.ok (.bl (!b)) S1) | none => none)) | some (.ex c_ p_ S_) => some (.ex c_ p_ S_) | none => none) := rfl
@[simp] theorem wE_and {a b : IE} : evE E (.and a b) ρ S = (match (evE E a ρ S) with | some (.ok x S1) => ((match truthy S1 x with | some true => evE E b ρ S1 | some false => some (.ok x S1) | none => none)) | some (.ex c_ p_ S_) => some (.ex c_ p_ S_) | none => none) := rfl
@[simp] theorem wE_or {a b : IE} : evE E (.or a b) ρ S = (match (evE E a ρ S) with | some (.ok x S1) => ((match truthy S1 x with | some true => some (.ok x S1) | some false => evE E b ρ S1 | none => none)) | some (.ex c_ p_ S_) => some (.ex c_ p_ S_) | none => none) := rfl
@[simp] theorem wE_ite {c a b : IE} : evE E (.ite c a b) ρ S = (match (evE E c ρ S) with | some (.ok x S1) => ((match truthy S1 x with | some true => evE E a ρ S1 | some false => evE E b ρ S1 | none => none)) | some (.ex c_ p_ S_) => some (.ex c_ p_ S_) | none => none) := rfl
@[simp] theorem wE_ix {a b : IE} : evE E (.ix a b) ρ S = (match (evE E a ρ S) with | some (.ok x S1) => ((match (evE E b ρ S1) with | some (.ok y S2) => (lift false (ixT S2 x y) S2) | some (.ex c_ p_ S_) => some (.ex c_ p_ S_) | none => none)) | some (.ex c_ p_ S_) => some (.ex c_ p_ S_) | none => none) := rfl
@[simp] theorem wE_sl {bx : Bool} {a lo hi : IE} : evE E (.sl bx a lo hi) ρ S = (match (evE E a ρ S) with | some (.ok x S1) => ((match (evE E lo ρ S1) with | some (.ok l S2) => ((match part (isNil lo) l with | some i => (match (evE E hi ρ S2) with | some (.ok h S3) => ((match part (isNil hi) h with | some j => lift bx (slT S3 x i j) S3 | none => none)) | some (.ex c_ p_ S_) => some (.ex c_ p_ S_) | none => none) | none => none)) | some (.ex c_ p_ S_) => some (.ex c_ p_ S_) | none => none)) | some (.ex c_ p_ S_) => some (.ex c_ p_ S_) | none => none) := rfl
@[simp] theorem wE_rev {bx : Bool} {a : IE} : evE E (.rev bx a) ρ S = (match (evE E a ρ S) with | some (.ok x S1) => (lift bx (revT S1 x) S1) | some (.ex c_ p_ S_) => some (.ex c_ p_ S_) | none => none) := rfl
@[simp] theorem wE_call {f : Nat} {es : IE} : evE E (.call f es) ρ S = (match (evE E es ρ S) with | some (.ok x S1) => (tups x fun l => E.call f l S1) | some (.ex c_ p_ S_) => some (.ex c_ p_ S_) | none => none) := rfl
@[simp] theorem wE_blt {bx : Bool} {b : Bl} {es : IE} : evE E (.blt bx b es) ρ S = (match (evE E es ρ S) with | some (.ok x S1) => (tups x fun l => lift bx (bltT S1 b l) S1) | some (.ex c_ p_ S_) => some (.ex c_ p_ S_) | none => none) := rfl
@[simp] theorem wE_isi {a : IE} {ty : String} : evE E (.isi a ty) ρ S = (match (evE E a ρ S) with | some (.ok x S1) => (liftB (isiT S1 x ty) S1) | some (.ex c_ p_ S_) => some (.ex c_ p_ S_) | none => none) := rfl
@[simp] theorem wE_mt0 {m : Mt} {o : IE} : evE E (.mt0 m o) ρ S = (match (evE E o ρ S) with | some (.ok x S1) => (lift false (mt0T m x) S1) | some (.ex c_ p_ S_) => some (.ex c_ p_ S_) | none => none) := rfl
@[simp] theorem wE_mt1 {m : Mt} {o e : IE} : evE E (.mt1 m o e) ρ S = (match (evE E o ρ S) with | some (.ok x S1) => (strT x fun a => (match (evE E e ρ S1) with | some (.ok y S2) => (lift false (mt1T S2 m a y) S2) | some (.ex c_ p_ S_) => some (.ex c_ p_ S_) | none => none)) | some (.ex c_ p_ S_) => some (.ex c_ p_ S_) | none => none) := rfl
/-- one turn of a comprehension -/
def lcT (E : EV) (elt : IE) (tg : Tg) (cnd : IE) (ρ : Rho) : T → Sto → Option (Option T × Sto) := fun t S => match bindT tg t ρ with
        | some ρ' => (match evE E cnd ρ' S with
          | some (.ok c S') => (match truthy S' c with
            | some true => (match evE E elt ρ' S' with | some (.ok y S'') => some (some y, S'') | _ => none)
            | some false => some (none, S')
            | none => none)
          | _ => none)
        | none => none
@[simp] theorem wE_lc {bx : Bool} {own : List Nat} {elt : IE} {tg : Tg} {src cnd : IE} : evE E (.lc bx own elt tg src cnd) ρ S = (match (evE E src ρ S) with | some (.ok x S1) => (tups x fun l => (match lcL (lcT E elt tg cnd (wipeR ρ own)) l [] S1 with | some (ys, S2) => some (newL bx (.lst ys) S2) | none => none)) | some (.ex c_ p_ S_) => some (.ex c_ p_ S_) | none => none) := rfl
@[simp] theorem wE_sq {a : IE} : evE E (.sq a) ρ S = (match (evE E a ρ S) with | some (.ok x S1) => ((match seqT x with | some l => some (.ok (.tup l) S1) | none => none)) | some (.ex c_ p_ S_) => some (.ex c_ p_ S_) | none => none) := rfl
@[simp] theorem wE_rg1 {a : IE} : evE E (.rg1 a) ρ S = (match (evE E a ρ S) with | some (.ok x S1) => ((match x with | .int j => if okR j then some (.ok (.tup (rngT 0 j.toNat)) S1) else none | _ => none)) | some (.ex c_ p_ S_) => some (.ex c_ p_ S_) | none => none) := rfl
@[simp] theorem wE_rg2 {a b : IE} : evE E (.rg2 a b) ρ S = (match (evE E a ρ S) with | some (.ok x S1) => ((match (evE E b ρ S1) with | some (.ok y S2) => ((match x, y with | .int i, .int j => if okR i && okR j then some (.ok (.tup (rngT i (j - i).toNat)) S2) else none | _, _ => none)) | some (.ex c_ p_ S_) => some (.ex c_ p_ S_) | none => none)) | some (.ex c_ p_ S_) => some (.ex c_ p_ S_) | none => none) := rfl
@[simp] theorem wE_zp {a b : IE} : evE E (.zp a b) ρ S = (match (evE E a ρ S) with | some (.ok x S1) => ((match (evE E b ρ S1) with | some (.ok y S2) => ((match x, y with | .tup xs, .tup ys => some (.ok (.tup (zipT xs ys)) S2) | .lst xs, .lst ys => some (.ok (.tup (zipT xs ys)) S2) | _, _ => none)) | some (.ex c_ p_ S_) => some (.ex c_ p_ S_) | none => none)) | some (.ex c_ p_ S_) => some (.ex c_ p_ S_) | none => none) := rfl
@[simp] theorem wE_en {a : IE} : evE E (.en a) ρ S = (match (evE E a ρ S) with | some (.ok x S1) => ((match x with | .lst l => some (.ok (.tup (enuT 0 l)) S1) | _ => none)) | some (.ex c_ p_ S_) => some (.ex c_ p_ S_) | none => none) := rfl
/-- one turn of a loop -/
def frT (E : EV) (tg : Tg) (b : IS) : T → Rho → Sto → ResS := fun t ρ S => match bindT tg t ρ with | some ρ' => evS E b ρ' S | none => none
@[simp] theorem wS_skip : evS E .skip ρ S = some (.nx ρ S) := rfl
@[simp] theorem wS_seq {a b : IS} : evS E (.seq a b) ρ S = (match evS E a ρ S with | some (.nx ρ' S') => evS E b ρ' S' | r => r) := rfl
@[simp] theorem wS_pass : evS E .pass ρ S = some (.nx ρ S) := rfl
@[simp] theorem wS_brk : evS E .brk ρ S = some (.bk ρ S) := rfl
@[simp] theorem wS_cnt : evS E .cnt ρ S = some (.ct ρ S) := rfl
@[simp] theorem wS_ret {e : IE} : evS E (.ret e) ρ S = (match (evE E e ρ S) with | some (.ok t S') => (some (.rt t S')) | some (.ex c_ p_ S_) => some (.ex c_ p_ ρ S_) | none => none) := rfl
@[simp] theorem wS_expr {e : IE} : evS E (.expr e) ρ S = (match (evE E e ρ S) with | some (.ok _ S') => (some (.nx ρ S')) | some (.ex c_ p_ S_) => some (.ex c_ p_ ρ S_) | none => none) := rfl
@[simp] theorem wS_asg {tg : Tg} {e : IE} : evS E (.asg tg e) ρ S = (match (evE E e ρ S) with | some (.ok t S') => ((match bindT tg t ρ with | some ρ' => some (.nx ρ' S') | none => none)) | some (.ex c_ p_ S_) => some (.ex c_ p_ ρ S_) | none => none) := rfl
@[simp] theorem wS_par2 {i j : Nat} {e : IE} : evS E (.par2 i j e) ρ S = (match (evE E e ρ S) with | some (.ok t S') => ((match t with | .tup [x, y] => some (.nx ((ρ.set i (some x)).set j (some y)) S') | _ => none)) | some (.ex c_ p_ S_) => some (.ex c_ p_ ρ S_) | none => none) := rfl
@[simp] theorem wS_par3 {i j k : Nat} {e : IE} : evS E (.par3 i j k e) ρ S = (match (evE E e ρ S) with | some (.ok t S') => ((match t with | .tup [x, y, z] => some (.nx (((ρ.set i (some x)).set j (some y)).set k (some z)) S') | _ => none)) | some (.ex c_ p_ S_) => some (.ex c_ p_ ρ S_) | none => none) := rfl
@[simp] theorem wS_sub {o i e : IE} : evS E (.sub o i e) ρ S = (match (evE E e ρ S) with | some (.ok t S1) => ((match (evE E o ρ S1) with | some (.ok x S2) => ((match (evE E i ρ S2) with | some (.ok y S3) => ((match wSub S3 x y t with | some S4 => some (.nx ρ S4) | none => none)) | some (.ex c_ p_ S_) => some (.ex c_ p_ ρ S_) | none => none)) | some (.ex c_ p_ S_) => some (.ex c_ p_ ρ S_) | none => none)) | some (.ex c_ p_ S_) => some (.ex c_ p_ ρ S_) | none => none) := rfl
@[simp] theorem wS_app {o e : IE} : evS E (.app o e) ρ S = (match (evE E o ρ S) with | some (.ok x S1) => (if isLst S1 x then (match (evE E e ρ S1) with | some (.ok t S2) => (match wApp S2 x t with | some S3 => some (.nx ρ S3) | none => none) | some (.ex c_ p_ S_) => some (.ex c_ p_ ρ S_) | none => none) else none) | some (.ex c_ p_ S_) => some (.ex c_ p_ ρ S_) | none => none) := rfl
@[simp] theorem wS_iff {c : IE} {a b : IS} : evS E (.iff c a b) ρ S = (match (evE E c ρ S) with | some (.ok x S1) => ((match truthy S1 x with | some true => evS E a ρ S1 | some false => evS E b ρ S1 | none => none)) | some (.ex c_ p_ S_) => some (.ex c_ p_ ρ S_) | none => none) := rfl
@[simp] theorem wS_for {tg : Tg} {src : IE} {b : IS} : evS E (.for_ tg src b) ρ S = (match (evE E src ρ S) with | some (.ok x S1) => ((match x with | .tup l => forL (frT E tg b) l ρ S1 | _ => none)) | some (.ex c_ p_ S_) => some (.ex c_ p_ ρ S_) | none => none) := rfl
@[simp] theorem wS_whl {c : IE} {b : IS} : evS E (.whl c b) ρ S = whlL (fun ρ S => evE E c ρ S) (fun ρ S => evS E b ρ S) E.wf ρ S := rfl
@[simp] theorem wS_rs {c : Nat} : evS E (.rs c) ρ S = some (.ex c none ρ S) := rfl
end

@[simp] theorem bnd_ok (t : T) (S : Sto) (k : T → Sto → Res) : bnd (some (.ok t S)) k = k t S := rfl
@[simp] theorem bnd_ex (c : Nat) (p : Option T) (S : Sto) (k : T → Sto → Res) : bnd (some (.ex c p S)) k = some (.ex c p S) := rfl
@[simp] theorem bndS_ok (t : T) (S : Sto) (ρ : Rho) (k : T → Sto → ResS) : bndS (some (.ok t S)) ρ k = k t S := rfl
@[simp] theorem bndS_ex (c : Nat) (p : Option T) (S : Sto) (ρ : Rho) (k : T → Sto → ResS) : bndS (some (.ex c p S)) ρ k = some (.ex c p ρ S) := rfl
@[simp] theorem tups_t (l : List T) (k : List T → Res) : tups (.tup l) k = k l := rfl
@[simp] theorem strT_t (l : Str) (k : Str → Res) : strT (.str l) k = k l := rfl
@[simp] theorem lift_f (t : T) (S : Sto) : lift false (some t) S = some (.ok t S) := by cases t <;> rfl
@[simp] theorem lift_tl (l : List T) (S : Sto) : lift true (some (.lst l)) S = some (.ok (.box S.length) (S ++ [.lst l])) := rfl
@[simp] theorem newL_f (t : T) (S : Sto) : newL false t S = .ok t S := by cases t <;> rfl
@[simp] theorem newL_t (l : List T) (S : Sto) : newL true (.lst l) S = .ok (.box S.length) (S ++ [.lst l]) := rfl
@[simp] theorem liftB_s (b : Bool) (S : Sto) : liftB (some b) S = some (.ok (.bl b) S) := rfl
@[simp] theorem drf_non (S : Sto) : drf S .non = .non := rfl
@[simp] theorem drf_bl (S : Sto) (i : Bool) : drf S (.bl i) = .bl i := rfl
@[simp] theorem drf_int (S : Sto) (i : Int) : drf S (.int i) = .int i := rfl
@[simp] theorem drf_str (S : Sto) (i : Str) : drf S (.str i) = .str i := rfl
@[simp] theorem drf_tup (S : Sto) (i : List T) : drf S (.tup i) = .tup i := rfl
@[simp] theorem drf_lst (S : Sto) (i : List T) : drf S (.lst i) = .lst i := rfl
@[simp] theorem drf_scr (S : Sto) (i : List Int) : drf S (.scr i) = .scr i := rfl
theorem drf_box {S : Sto} {n : Nat} {l : List T} (h : S[n]? = some (.lst l)) : drf S (.box n) = .lst l := by simp [drf, h]
@[simp] theorem tr_non (S : Sto) : truthy S .non = some false := rfl
@[simp] theorem tr_bl (S : Sto) (i : Bool) : truthy S (.bl i) = some i := rfl
@[simp] theorem tr_int (S : Sto) (i : Int) : truthy S (.int i) = some (i != 0) := rfl
@[simp] theorem tr_tup (S : Sto) (i : List T) : truthy S (.tup i) = some (!i.isEmpty) := rfl
@[simp] theorem tr_lst (S : Sto) (i : List T) : truthy S (.lst i) = some (!i.isEmpty) := rfl
section
variable (S : Sto) (i j : Int)
@[simp] theorem co_lt : cop S .Lt (.int i) (.int j) = some (decide (i < j)) := rfl
@[simp] theorem co_le : cop S .LtE (.int i) (.int j) = some (decide (i ≤ j)) := rfl
@[simp] theorem co_gt : cop S .Gt (.int i) (.int j) = some (decide (j < i)) := rfl
@[simp] theorem co_ge : cop S .GtE (.int i) (.int j) = some (decide (j ≤ i)) := rfl
theorem shal_int (i j : Int) : shal (.int i) (.int j) = true := by simp [shal, PyData.depth]
@[simp] theorem co_eq : cop S .Eq (.int i) (.int j) = some (decide (i = j)) := by
  simp only [cop, drf_int, eqT, toD, shal_int, if_true]
  congr 1
@[simp] theorem co_ne : cop S .NotEq (.int i) (.int j) = some (decide (i ≠ j)) := by
  have := co_eq S i j
  simp only [cop] at this ⊢
  rw [this]
  simp
@[simp] theorem bo_add : bop .Add (.int i) (.int j) = some (.int (i + j)) := rfl
@[simp] theorem bo_sub : bop .Sub (.int i) (.int j) = some (.int (i - j)) := rfl
@[simp] theorem ne_int : negT (.int i) = some (.int (-i)) := rfl
@[simp] theorem ne_bl (p : Bool) : negT (.bl p) = some (.int (-(if p = true then (1 : Int) else 0))) := rfl
@[simp] theorem bl_int : bltT S .int [.int i] = some (.int i) := rfl
@[simp] theorem bl_abs : bltT S .abs [.int i] = some (.int (if i < 0 then -i else i)) := rfl
@[simp] theorem bl_max : bltT S .max [.int i, .int j] = some (.int (if j > i then j else i)) := rfl
@[simp] theorem bl_min : bltT S .min [.int i, .int j] = some (.int (if j < i then j else i)) := rfl
@[simp] theorem bl_lenT (l : List T) : bltT S .len [.tup l] = some (.int l.length) := rfl
@[simp] theorem bl_lenL (l : List T) : bltT S .len [.lst l] = some (.int l.length) := rfl
@[simp] theorem bl_lenR (l : List Int) : bltT S .len [.scr l] = some (.int l.length) := rfl
@[simp] theorem bl_tupL (l : List T) : bltT S .tuple [.lst l] = some (.tup l) := rfl
@[simp] theorem bl_tupT (l : List T) : bltT S .tuple [.tup l] = some (.tup l) := rfl
@[simp] theorem bl_lstL (l : List T) : bltT S .list [.lst l] = some (.lst l) := rfl
@[simp] theorem bl_lstT (l : List T) : bltT S .list [.tup l] = some (.lst l) := rfl
@[simp] theorem bl_allL (l : List T) : bltT S .all [.lst l] = (match boolsOf l with | some l => some (.bl (l.all id)) | _ => none) := rfl
@[simp] theorem ix_tup (l : List T) : ixT S (.tup l) (.int i) = atI l i := rfl
@[simp] theorem ix_lst (l : List T) : ixT S (.lst l) (.int i) = atI l i := rfl
@[simp] theorem sl_tup (l : List T) (a b : Option Int) : slT S (.tup l) a b = some (.tup (cutL l a b)) := rfl
@[simp] theorem sl_lst (l : List T) (a b : Option Int) : slT S (.lst l) a b = some (.lst (cutL l a b)) := rfl
@[simp] theorem rv_tup (l : List T) : revT S (.tup l) = some (.tup l.reverse) := rfl
@[simp] theorem rv_lst (l : List T) : revT S (.lst l) = some (.lst l.reverse) := rfl
@[simp] theorem isNil_nil : isNil .nil = true := rfl
@[simp] theorem isNil_lit (t : T) : isNil (.lit t) = false := rfl
@[simp] theorem isNil_var (t : Nat) : isNil (.var t) = false := rfl
@[simp] theorem isNil_neg (a : IE) : isNil (.neg a) = false := rfl
@[simp] theorem isNil_op (k : Bool) (o : Operator) (a b : IE) : isNil (.op k o a b) = false := rfl
@[simp] theorem isNil_ix (a b : IE) : isNil (.ix a b) = false := rfl
@[simp] theorem part_nil (t : T) : part true t = some none := rfl
@[simp] theorem part_int : part false (.int i) = some (some i) := rfl
@[simp] theorem seq_tup (l : List T) : seqT (.tup l) = some l := rfl
@[simp] theorem seq_lst (l : List T) : seqT (.lst l) = some l := rfl
end
theorem bl_tupB {S : Sto} {n : Nat} {l : List T} (h : S[n]? = some (.lst l)) : bltT S .tuple [.box n] = some (.tup l) := by simp [bltT, drf, h]
theorem bl_lenB {S : Sto} {n : Nat} {l : List T} (h : S[n]? = some (.lst l)) : bltT S .len [.box n] = some (.int l.length) := by simp [bltT, drf, h]
theorem ix_box {S : Sto} {i : Int} {n : Nat} {l : List T} (h : S[n]? = some (.lst l)) : ixT S (.box n) (.int i) = atI l i := by simp [ixT, drf, h]
theorem bo_mod {i j : Int} (h : 0 < j) : bop .Mod (.int i) (.int j) = some (.int (i % j)) := by simp [bop, h]
theorem bo_mod_s {i : Int} {j : Int} (h : (decide (0 < j)) = true) : bop .Mod (.int i) (.int j) = some (.int (i % j)) := by simp [bop, of_decide_eq_true h]
theorem bo_fdiv {i j : Int} (h : 0 < j) (h2 : j < 1073741824) : bop .FloorDiv (.int i) (.int j) = some (.int (i / j)) := by simp [bop, h, h2]
theorem bo_mulL {i j : Int} (h : small64 i = true) : bop .Mult (.int i) (.int j) = some (.int (i * j)) := by simp [bop, h]
theorem bo_mulR {i j : Int} (h : small64 j = true) : bop .Mult (.int i) (.int j) = some (.int (i * j)) := by simp [bop, h]
theorem bq_addT (a b : List T) : bop .Add (.tup a) (.tup b) = if a.length + b.length ≤ 16777216 then some (.tup (a ++ b)) else none := rfl
theorem bq_addL (a b : List T) : bop .Add (.lst a) (.lst b) = if a.length + b.length ≤ 16777216 then some (.lst (a ++ b)) else none := rfl
theorem bo_addT {a b : List T} (h : a.length + b.length ≤ line) : bop .Add (.tup a) (.tup b) = some (.tup (a ++ b)) := by simp [bop, h]
theorem bo_addL {a b : List T} (h : a.length + b.length ≤ line) : bop .Add (.lst a) (.lst b) = some (.lst (a ++ b)) := by simp [bop, h]
theorem atI_nat {α : Type} {l : List α} {r : Int} (h0 : 0 ≤ r) (h1 : r < l.length) : ∃ t, atI l r = some t ∧ t ∈ l := by
  have hlt : r.toNat < l.length := by omega
  refine ⟨l[r.toNat], ?_, List.getElem_mem hlt⟩
  simp [atI, ixN, h0, h1, List.getElem?_eq_getElem hlt]
@[simp] theorem atI_0 {α : Type} {x : α} {l : List α} : atI (x :: l) 0 = some x := by
  have : (0 : Int) < (l.length : Int) + 1 := by omega
  simp [atI, ixN, this]
@[simp] theorem atI_1 {α : Type} {x y : α} {l : List α} : atI (x :: y :: l) 1 = some y := by
  have : (1 : Int) < (l.length : Int) + 1 + 1 := by omega
  simp [atI, ixN, this]
@[simp] theorem atI_2 {α : Type} {x y z : α} {l : List α} : atI (x :: y :: z :: l) 2 = some z := by
  have : (2 : Int) < (l.length : Int) + 1 + 1 + 1 := by omega
  simp [atI, ixN, this]
theorem atI_k {α : Type} (l : List α) (k : Nat) (h : k < l.length) : atI l (k : Int) = l[k]? := by
  have h1 : (k : Int) < (l.length : Int) := by omega
  simp [atI, ixN, h1]

theorem run_succ (P : Prg) (n f : Nat) (ts : List T) (S : Sto) (fd : FD) (h : P.tab f = some fd) (hl : ts.length = fd.np) :
    run P (n + 1) f ts S = fin fd.keep S.length (evS ⟨run P n, P.cv, P.lam, P.wf⟩ fd.body (init fd ts) S) := by
  simp [run, h, hl]
@[simp] theorem fin_rt (b : Nat) (t : T) (S : Sto) : fin false b (some (.rt t S)) = some (fin1 b t S) := rfl
@[simp] theorem fin_rtk (b : Nat) (t : T) (S : Sto) : fin true b (some (.rt t S)) = some (.ok t S) := rfl
@[simp] theorem fin_nx (b : Nat) (ρ : Rho) (S : Sto) : fin false b (some (.nx ρ S)) = some (fin1 b .non S) := rfl
@[simp] theorem fin_ex (b c : Nat) (p : Option T) (ρ : Rho) (S : Sto) : fin false b (some (.ex c p ρ S)) = some (finE b c p S) := rfl
theorem fin1_le {b : Nat} {t : T} {S : Sto} (h : S.length ≤ b) : fin1 b t S = .ok t S := by simp [fin1, h]
@[simp] theorem fin1_eq {t : T} {S : Sto} : fin1 S.length t S = .ok t S := fin1_le (Nat.le_refl _)
theorem finE_le {b c : Nat} {p : Option T} {S : Sto} (h : S.length ≤ b) : finE b c p S = .ex c p S := by simp [finE, h]
@[simp] theorem finE_eq {c : Nat} {p : Option T} {S : Sto} : finE S.length c p S = .ex c p S := finE_le (Nat.le_refl _)

/-! ### loops -/
@[simp] theorem forL_nil {g : T → Rho → Sto → ResS} {ρ : Rho} {S : Sto} : forL g [] ρ S = some (.nx ρ S) := rfl
theorem forL_inv {g : T → Rho → Sto → ResS} (I : Rho → Sto → Prop) : ∀ {l : List T}, (∀ x ∈ l, ∀ ρ S, I ρ S → ∃ ρ' S', (g x ρ S = some (.nx ρ' S') ∨ g x ρ S = some (.ct ρ' S')) ∧ I ρ' S') → ∀ {ρ S}, I ρ S → ∃ ρ' S', forL g l ρ S = some (.nx ρ' S') ∧ I ρ' S'
  | [], _, ρ, S, hi => ⟨ρ, S, rfl, hi⟩
  | x :: l, h, ρ, S, hi => by
    obtain ⟨ρ', S', e, hi'⟩ := h x (by simp) ρ S hi
    obtain ⟨ρ2, S2, e2, h2⟩ := forL_inv I (l := l) (fun y hy => h y (List.mem_cons_of_mem _ hy)) hi'
    refine ⟨ρ2, S2, ?_, h2⟩
    rcases e with e | e <;> simp [forL, e, e2]
/-- with the list that is still to come -/
theorem forL_invL {g : T → Rho → Sto → ResS} (I : List T → Rho → Sto → Prop) : ∀ {l : List T}, (∀ x r ρ S, I (x :: r) ρ S → ∃ ρ' S', (g x ρ S = some (.nx ρ' S') ∨ g x ρ S = some (.ct ρ' S')) ∧ I r ρ' S') → ∀ {ρ S}, I l ρ S → ∃ ρ' S', forL g l ρ S = some (.nx ρ' S') ∧ I [] ρ' S'
  | [], _, ρ, S, hi => ⟨ρ, S, rfl, hi⟩
  | x :: l, h, ρ, S, hi => by
    obtain ⟨ρ', S', e, hi'⟩ := h x l ρ S hi
    obtain ⟨ρ2, S2, e2, h2⟩ := forL_invL I h hi'
    refine ⟨ρ2, S2, ?_, h2⟩
    rcases e with e | e <;> simp [forL, e, e2]
/-- a comprehension whose turns leave the store -/
theorem lcL_pure {g : T → Sto → Option (Option T × Sto)} {f : T → Option T} {S : Sto} : ∀ {l acc : List T}, (∀ x ∈ l, g x S = some (f x, S)) → acc.length + l.length ≤ line → lcL g l acc S = some (acc ++ l.filterMap f, S)
  | [], acc, _, _ => by simp [lcL]
  | x :: l, acc, h, hl => by
    have hx := h x (by simp)
    simp only [List.length_cons] at hl
    cases hf : f x with
    | some y =>
      rw [hf] at hx
      rw [lcL, hx]
      simp only []
      rw [if_pos (by omega), lcL_pure (fun z hz => h z (by simp [hz])) (by simp; omega)]
      simp [hf]
    | none =>
      rw [hf] at hx
      rw [lcL, hx]
      simp only []
      rw [lcL_pure (fun z hz => h z (by simp [hz])) (by omega)]
      simp [hf]
/-- a comprehension whose turns keep a law of the store -/
theorem lcL_inv {g : T → Sto → Option (Option T × Sto)} (I : Sto → Prop) (P : T → Prop) : ∀ {l acc : List T}, (∀ x ∈ l, ∀ S, I S → ∃ o S', g x S = some (o, S') ∧ I S' ∧ ∀ y, o = some y → P y) → acc.length + l.length ≤ line → (∀ y ∈ acc, P y) → ∀ {S}, I S →
    ∃ ys S', lcL g l acc S = some (ys, S') ∧ I S' ∧ (∀ y ∈ ys, P y) ∧ ys.length ≤ acc.length + l.length
  | [], acc, _, _, ha, S, hi => ⟨acc, S, rfl, hi, ha, by simp⟩
  | x :: l, acc, h, hl, ha, S, hi => by
    obtain ⟨o, S', e, hi', hp⟩ := h x (by simp) S hi
    simp only [List.length_cons] at hl
    cases o with
    | some y =>
      obtain ⟨ys, S2, e2, h1, h2, h3⟩ := lcL_inv I P (l := l) (acc := acc ++ [y]) (fun z hz => h z (by simp [hz])) (by simp; omega) (by
        intro z hz
        rcases List.mem_append.mp hz with hz | hz
        · exact ha z hz
        · rw [List.mem_singleton.mp hz]; exact hp y rfl) hi'
      refine ⟨ys, S2, ?_, h1, h2, by simp at h3 ⊢; omega⟩
      rw [lcL, e]
      simp only []
      rw [if_pos (by omega), e2]
    | none =>
      obtain ⟨ys, S2, e2, h1, h2, h3⟩ := lcL_inv I P (l := l) (acc := acc) (fun z hz => h z (by simp [hz])) (by omega) ha hi'
      refine ⟨ys, S2, ?_, h1, h2, by simp at h3 ⊢; omega⟩
      rw [lcL, e]
      simp only []
      rw [e2]
@[simp] theorem rngT_len (lo : Int) (n : Nat) : (rngT lo n).length = n := by simp [rngT]
theorem rngT_mem {lo : Int} {n : Nat} {t : T} (h : t ∈ rngT lo n) : ∃ k : Nat, k < n ∧ t = .int (lo + k) := by
  simp only [rngT, List.mem_map, List.mem_range] at h
  obtain ⟨k, h1, rfl⟩ := h
  exact ⟨k, h1, rfl⟩

/-! ### the tun -/
def Tn (S : Sto) (k : Nat) : Prop := ∃ a b : Int, S[k]? = some (.lst [.int a, .int b]) ∧ 0 ≤ a ∧ 0 ≤ b ∧ b < 2147477807
/-- the store after some draws -/
def Tw (k : Nat) (S S' : Sto) : Prop := k < S.length ∧ ∃ a b : Int, S' = S.set k (.lst [.int a, .int b]) ∧ 0 ≤ a ∧ 0 ≤ b ∧ b < 2147477807
theorem Tw.len {k : Nat} {S S' : Sto} (h : Tw k S S') : S'.length = S.length := by
  obtain ⟨_, a, b, rfl, _⟩ := h; simp
theorem Tw.tn {k : Nat} {S S' : Sto} (h : Tw k S S') : Tn S' k := by
  obtain ⟨h0, a, b, rfl, h⟩ := h; exact ⟨a, b, by simp [h0], h⟩
theorem Tw.trans {k : Nat} {S S' S2 : Sto} (h : Tw k S S') (h2 : Tw k S' S2) : Tw k S S2 := by
  obtain ⟨h0, a, b, rfl, h⟩ := h
  obtain ⟨_, a2, b2, rfl, h2⟩ := h2
  exact ⟨h0, a2, b2, by simp, h2⟩
theorem Tn.lt {k : Nat} {S : Sto} (h : Tn S k) : k < S.length := by
  obtain ⟨a, b, h, _⟩ := h; exact (List.getElem?_eq_some_iff.mp h).1
theorem Tn.tw {k : Nat} {S : Sto} (h : Tn S k) : Tw k S S := by
  obtain ⟨a, b, h, h2⟩ := h
  refine ⟨(List.getElem?_eq_some_iff.mp h).1, a, b, ?_, h2⟩
  obtain ⟨q, e⟩ := List.getElem?_eq_some_iff.mp h
  rw [← e]; simp
theorem Tw.other {k j : Nat} {S S' : Sto} (h : Tw k S S') (hj : j ≠ k) : S'[j]? = S[j]? := by
  obtain ⟨_, a, b, rfl, _⟩ := h
  rw [List.getElem?_set_ne (Ne.symm hj)]

/-! ### what a def leaves of the store -/
mutual
theorem noBx_up {b : Nat} : ∀ {t : T}, noBx 0 t = true → noBx b t = true
  | .box n, h => by simp [noBx] at h
  | .tup l, h => by simp only [noBx] at h ⊢; exact noBxL_up h
  | .lst l, h => by simp only [noBx] at h ⊢; exact noBxL_up h
  | .non, _ => rfl
  | .bl _, _ => rfl
  | .int _, _ => rfl
  | .str _, _ => rfl
  | .fn _, _ => rfl
  | .scr _, _ => rfl
theorem noBxL_up {b : Nat} : ∀ {l : List T}, noBxL 0 l = true → noBxL b l = true
  | [], _ => rfl
  | t :: l, h => by
    simp only [noBxL, Bool.and_eq_true] at h ⊢
    exact ⟨noBx_up h.1, noBxL_up h.2⟩
end
theorem noBxL_iff {b : Nat} : ∀ {l : List T}, noBxL b l = true ↔ ∀ t ∈ l, noBx b t = true
  | [] => by simp [noBxL]
  | t :: l => by simp [noBxL, noBxL_iff (l := l)]
theorem noBxO_up {b : Nat} {ob : Ob} (h : noBxO 0 ob = true) : noBxO b ob = true := by
  cases ob with
  | lst l => exact noBxL_up h
  | _ => exact h
/-- no boxes in the store's objects -/
def Cl (S : Sto) : Prop := ∀ ob ∈ S, noBxO 0 ob = true
theorem Cl.all {S : Sto} (h : Cl S) (b : Nat) : S.all (noBxO b) = true := List.all_eq_true.mpr fun ob ho => noBxO_up (h ob ho)
theorem Cl.tw {k : Nat} {S S' : Sto} (h : Cl S) (w : Tw k S S') : Cl S' := by
  obtain ⟨_, a, b, rfl, _⟩ := w
  intro ob ho
  rcases List.mem_or_eq_of_mem_set ho with ho | rfl
  · exact h ob ho
  · rfl
theorem Cl.app {S : Sto} (h : Cl S) {l : List T} (hl : noBxL 0 l = true) : Cl (S ++ [.lst l]) := by
  intro ob ho
  rcases List.mem_append.mp ho with ho | ho
  · exact h ob ho
  · rw [List.mem_singleton.mp ho]; exact hl
theorem thaw_no {b : Nat} {t : T} {S : Sto} (h : noBx 0 t = true) : thaw b t S = t := by
  cases t <;> first | rfl | simp [noBx] at h
theorem fin1_cut {S X : Sto} {t : T} {b : Nat} (hb : S.length = b) (ht : noBx 0 t = true) (h : Cl S) : fin1 b t (S ++ X) = .ok t S := by
  subst hb
  unfold fin1
  split
  · rename_i q
    have : X = [] := List.eq_nil_of_length_eq_zero (by rw [List.length_append] at q; omega)
    subst this; simp
  · rw [thaw_no ht, noBx_up ht]
    simp [h.all]
theorem finE_cut {S X : Sto} {c : Nat} {p : Option T} {b : Nat} (hb : S.length = b) (h : Cl S) : finE b c p (S ++ X) = .ex c p S := by
  subst hb
  unfold finE
  split
  · rename_i q
    have : X = [] := List.eq_nil_of_length_eq_zero (by rw [List.length_append] at q; omega)
    subst this; simp
  · simp [h.all]
/-- a list of this def's own, handed out -/
theorem fin1_thaw {S X : Sto} {l : List T} {b n : Nat} (hb : S.length = b) (hn : b ≤ n) (hx : (S ++ X)[n]? = some (.lst l)) (ht : noBxL 0 l = true) (h : Cl S) : fin1 b (.box n) (S ++ X) = .ok (.lst l) S := by
  subst hb
  unfold fin1
  split
  · rename_i q
    have : X = [] := List.eq_nil_of_length_eq_zero (by rw [List.length_append] at q; omega)
    subst this
    have := (List.getElem?_eq_some_iff.mp hx).1
    simp at this; omega
  · have e : thaw S.length (.box n) (S ++ X) = .lst l := by simp only [thaw]; rw [if_pos hn, hx]
    rw [e]
    simp [h.all, noBx, noBxL_up ht]
theorem Tn.app {k : Nat} {S : Sto} (h : Tn S k) (X : Sto) : Tn (S ++ X) k := by
  obtain ⟨a, b, h, h2⟩ := h
  exact ⟨a, b, by rw [List.getElem?_append_left (List.getElem?_eq_some_iff.mp h).1]; exact h, h2⟩
theorem Tw.app {k : Nat} {S X S' : Sto} (hk : k < S.length) (h : Tw k (S ++ X) S') : ∃ S1, S' = S1 ++ X ∧ Tw k S S1 := by
  obtain ⟨_, a, b, rfl, h⟩ := h
  exact ⟨S.set k (.lst [.int a, .int b]), by rw [List.set_append_left _ _ hk], hk, a, b, rfl, h⟩
end Fw

namespace Fw
open PySem L2 PyProof.Rows
/-! ## the text of this law, by places -/
def top (i : Nat) : Stmt := PySem.Challenge.pw_fencewatch_k01_watchers_and_worlds_recog.main.body.getD i (.Pass ⟨0, 0, 0, 0⟩)
def fd_is_from : FD := ⟨3, 3, false, (.seq (.ret (.and (.isi (.var 0) "int") (.and (.not (.isi (.var 0) "bool")) (.chn .LtE .LtE (.var 1) (.var 0) (.var 2))))) .skip)⟩
def fd_is_good_watcher : FD := ⟨1, 4, false, (.seq (.iff (.or (.not (.isi (.var 0) "tuple")) (.cmp .NotEq (.blt false .len (.cons (.var 0) .nil)) (.lit (.int 7)))) (.seq (.ret (.lit (.bl false))) .skip) .skip) (.seq (.iff (.or (.not (.blt false .all (.cons (.lc false [3] (.call 0 (.cons (.var 3) (.cons (.neg (.op false .Pow (.lit (.int 10)) (.lit (.int 30)))) (.cons (.op false .Pow (.lit (.int 10)) (.lit (.int 30))) .nil)))) (.nm 3) (.sq (.sl false (.var 0) .nil (.lit (.int 2)))) (.lit (.bl true))) .nil))) (.cmp .Gt (.ix (.var 0) (.lit (.int 0))) (.ix (.var 0) (.lit (.int 1))))) (.seq (.ret (.lit (.bl false))) .skip) .skip) (.seq (.iff (.not (.blt false .all (.cons (.lc false [1] (.call 0 (.cons (.var 1) (.cons (.lit (.int 0)) (.cons (.lit (.int 3)) .nil)))) (.nm 1) (.sq (.sl false (.var 0) (.lit (.int 2)) (.lit (.int 4)))) (.lit (.bl true))) .nil))) (.seq (.ret (.lit (.bl false))) .skip) .skip) (.seq (.iff (.not (.blt false .all (.cons (.lc false [2] (.call 0 (.cons (.var 2) (.cons (.lit (.int 1)) (.cons (.lit (.int 3)) .nil)))) (.nm 2) (.sq (.sl false (.var 0) (.lit (.int 4)) (.lit (.int 6)))) (.lit (.bl true))) .nil))) (.seq (.ret (.lit (.bl false))) .skip) .skip) (.seq (.ret (.and (.isi (.ix (.var 0) (.lit (.int 6))) "str") (.cmp .In (.ix (.var 0) (.lit (.int 6))) (.tup (.cons (.lit (.str (Str.ofString "keep"))) (.cons (.lit (.str (Str.ofString "drop"))) .nil)))))) .skip)))))⟩
def fd_is_good_world : FD := ⟨1, 2, false, (.seq (.iff (.or (.not (.isi (.var 0) "tuple")) (.cmp .NotEq (.blt false .len (.cons (.var 0) .nil)) (.lit (.int 3)))) (.seq (.ret (.lit (.bl false))) .skip) .skip) (.seq (.ret (.and (.blt false .all (.cons (.lc false [1] (.call 0 (.cons (.var 1) (.cons (.lit (.int 0)) (.cons (.lit (.int 3)) .nil)))) (.nm 1) (.sq (.sl false (.var 0) .nil (.lit (.int 2)))) (.lit (.bl true))) .nil)) (.call 0 (.cons (.ix (.var 0) (.lit (.int 2))) (.cons (.lit (.int 0)) (.cons (.lit (.int 2)) .nil)))))) .skip))⟩
def fd_need_world : FD := ⟨1, 1, false, (.seq (.iff (.not (.call 2 (.cons (.var 0) .nil))) (.seq (.rs 1) .skip) .skip) .skip)⟩
def fd_is_watcher : FD := ⟨1, 1, false, (.seq (.ret (.call 1 (.cons (.var 0) .nil))) .skip)⟩
def fd_is_world : FD := ⟨1, 1, false, (.seq (.ret (.call 2 (.cons (.var 0) .nil))) .skip)⟩
def fd_is_good_walk : FD := ⟨2, 5, false, (.seq (.iff (.or (.not (.isi (.var 1) "tuple")) (.or (.cmp .Gt (.blt false .len (.cons (.var 1) .nil)) (.lit (.int 100))) (.not (.blt false .all (.cons (.lc false [4] (.call 0 (.cons (.var 4) (.cons (.op false .Sub (.lit (.int 0)) (.cst 0)) (.cons (.cst 0) .nil)))) (.nm 4) (.sq (.var 1)) (.lit (.bl true))) .nil))))) (.seq (.ret (.lit (.bl false))) .skip) .skip) (.seq (.ret (.blt false .all (.cons (.lc false [2, 3] (.cmp .LtE (.blt false .abs (.cons (.op false .Sub (.var 2) (.var 3)) .nil)) (.ix (.var 0) (.lit (.int 0)))) (.tp (.cn (.nm 2) (.cn (.nm 3) .nl))) (.zp (.var 1) (.sl false (.var 1) (.lit (.int 1)) .nil)) (.lit (.bl true))) .nil))) .skip))⟩
def fd_is_walk : FD := ⟨2, 2, false, (.seq (.expr (.call 3 (.cons (.var 0) .nil))) (.seq (.ret (.call 6 (.cons (.var 0) (.cons (.var 1) .nil)))) .skip))⟩
def fd_law_tun : FD := ⟨2, 3, true, (.seq (.asg (.nm 2) (.ite (.cmp .Lt (.var 1) (.blt false .len (.cons (.var 0) .nil))) (.blt false .abs (.cons (.blt false .int (.cons (.ix (.var 0) (.var 1)) .nil)) .nil)) (.op false .Add (.op false .Mult (.lit (.int 109)) (.var 1)) (.lit (.int 71))))) (.seq (.ret (.lst true (.cons (.ite (.cmp .GtE (.var 2) (.op false .Pow (.lit (.int 10)) (.lit (.int 18)))) (.var 2) (.lit (.int 0))) (.cons (.op false .Mod (.blt false .int (.cons (.op false .Add (.op false .Add (.op false .Mod (.blt false .int (.cons (.var 2) .nil)) (.lit (.int 2147477807))) (.op false .Mult (.lit (.int 30197)) (.var 1))) (.lit (.int 811))) .nil)) (.lit (.int 2147477807))) .nil)))) .skip))⟩
def fd_law_scoop : FD := ⟨2, 4, false, (.seq (.iff (.cmp .Gt (.ix (.var 0) (.lit (.int 0))) (.lit (.int 0))) (.seq (.asg (.nm 3) (.op false .Mod (.blt false .int (.cons (.ix (.var 0) (.lit (.int 0))) .nil)) (.var 1))) (.seq (.sub (.var 0) (.lit (.int 0)) (.op false .FloorDiv (.blt false .int (.cons (.ix (.var 0) (.lit (.int 0))) .nil)) (.var 1))) (.seq (.ret (.var 3)) .skip))) .skip) (.seq (.sub (.var 0) (.lit (.int 1)) (.op false .Mod (.blt false .int (.cons (.op false .Add (.op false .Mult (.ix (.var 0) (.lit (.int 1))) (.lit (.int 46507))) (.lit (.int 7001))) .nil)) (.lit (.int 2147477807)))) (.seq (.asg (.nm 2) (.op false .Mod (.op false .Mult (.blt false .int (.cons (.ix (.var 0) (.lit (.int 1))) .nil)) (.op false .Add (.op false .FloorDiv (.blt false .int (.cons (.ix (.var 0) (.lit (.int 1))) .nil)) (.lit (.int 71))) (.lit (.int 53)))) (.lit (.int 2147477797)))) (.seq (.ret (.op false .Mod (.blt false .int (.cons (.op false .FloorDiv (.blt false .int (.cons (.var 2) .nil)) (.lit (.int 37))) .nil)) (.var 1))) .skip))))⟩
def fd_law_any : FD := ⟨2, 2, false, (.seq (.ret (.ix (.var 1) (.call 9 (.cons (.var 0) (.cons (.blt false .len (.cons (.var 1) .nil)) .nil))))) .skip)⟩
def fd_law_watcher : FD := ⟨2, 6, false, (.seq (.asg (.nm 2) (.call 10 (.cons (.var 0) (.cons (.lst false (.cons (.lit (.int 0)) (.cons (.lit (.int 0)) (.cons (.neg (.lit (.int 3))) (.cons (.lit (.int 7)) .nil))))) .nil)))) (.seq (.asg (.nm 3) (.op false .Add (.var 2) (.call 9 (.cons (.var 0) (.cons (.op false .Add (.var 1) (.lit (.int 1))) .nil))))) (.seq (.asg (.nm 4) (.tup (.cons (.op false .Add (.lit (.int 1)) (.call 10 (.cons (.var 0) (.cons (.lst false (.cons (.lit (.int 0)) (.cons (.lit (.int 0)) (.cons (.lit (.int 1)) (.cons (.lit (.int 2)) .nil))))) .nil)))) (.cons (.op false .Add (.lit (.int 1)) (.call 10 (.cons (.var 0) (.cons (.lst false (.cons (.lit (.int 0)) (.cons (.lit (.int 0)) (.cons (.lit (.int 1)) (.cons (.lit (.int 2)) .nil))))) .nil)))) .nil)))) (.seq (.asg (.nm 5) (.tup (.cons (.call 10 (.cons (.var 0) (.cons (.lst false (.cons (.lit (.int 0)) (.cons (.lit (.int 0)) (.cons (.lit (.int 1)) (.cons (.lit (.int 2)) (.cons (.lit (.int 3)) .nil)))))) .nil))) (.cons (.call 10 (.cons (.var 0) (.cons (.lst false (.cons (.lit (.int 0)) (.cons (.lit (.int 0)) (.cons (.lit (.int 1)) (.cons (.lit (.int 2)) (.cons (.lit (.int 3)) .nil)))))) .nil))) .nil)))) (.seq (.ret (.op false .Add (.op false .Add (.op false .Add (.tup (.cons (.var 2) (.cons (.var 3) .nil))) (.var 5)) (.var 4)) (.tup (.cons (.call 10 (.cons (.var 0) (.cons (.lst false (.cons (.lit (.str (Str.ofString "keep"))) (.cons (.lit (.str (Str.ofString "drop"))) .nil))) .nil))) .nil)))) .skip)))))⟩
def fd_law_world : FD := ⟨1, 1, false, (.seq (.ret (.tup (.cons (.call 10 (.cons (.var 0) (.cons (.lst false (.cons (.lit (.int 0)) (.cons (.lit (.int 1)) (.cons (.lit (.int 1)) (.cons (.lit (.int 2)) .nil))))) .nil))) (.cons (.call 10 (.cons (.var 0) (.cons (.lst false (.cons (.lit (.int 0)) (.cons (.lit (.int 0)) (.cons (.lit (.int 1)) (.cons (.lit (.int 2)) .nil))))) .nil))) (.cons (.call 10 (.cons (.var 0) (.cons (.lst false (.cons (.lit (.int 0)) (.cons (.lit (.int 0)) (.cons (.lit (.int 1)) (.cons (.lit (.int 2)) .nil))))) .nil))) .nil))))) .skip)⟩
def fd_law_trip : FD := ⟨4, 10, false, (.seq (.par3 6 7 8 (.cons (.lit (.int 0)) (.cons (.lst true .nil) (.cons (.lst true .nil) .nil)))) (.seq (.asg (.nm 4) (.call 10 (.cons (.var 0) (.cons (.lst false (.cons (.ix (.var 1) (.lit (.int 0))) (.cons (.op false .Add (.ix (.var 1) (.lit (.int 1))) (.lit (.int 1))) (.cons (.op false .Sub (.ix (.var 1) (.lit (.int 0))) (.lit (.int 2))) .nil)))) .nil)))) (.seq (.for_ (.nm 5) (.rg1 (.var 3)) (.seq (.asg (.nm 4) (.op false .Sub (.op false .Add (.var 4) (.call 9 (.cons (.var 0) (.cons (.op false .Add (.op false .Mult (.lit (.int 2)) (.ix (.var 2) (.lit (.int 0)))) (.lit (.int 1))) .nil)))) (.ix (.var 2) (.lit (.int 0))))) (.seq (.iff (.and (.cmp .Lt (.var 6) (.ix (.var 2) (.lit (.int 2)))) (.cmp .Eq (.call 9 (.cons (.var 0) (.cons (.lit (.int 3)) .nil))) (.lit (.int 0)))) (.seq (.par2 6 9 (.cons (.op false .Add (.var 6) (.lit (.int 1))) (.cons (.lit .non) .nil))) .skip) (.seq (.par2 6 9 (.cons (.lit (.int 0)) (.cons (.op false .Sub (.op false .Add (.var 4) (.call 9 (.cons (.var 0) (.cons (.op false .Add (.op false .Mult (.lit (.int 2)) (.ix (.var 2) (.lit (.int 1)))) (.lit (.int 1))) .nil)))) (.ix (.var 2) (.lit (.int 1)))) .nil))) .skip)) (.seq (.app (.var 7) (.var 4)) (.seq (.app (.var 8) (.var 9)) .skip))))) (.seq (.ret (.tup (.cons (.blt false .tuple (.cons (.var 7) .nil)) (.cons (.blt false .tuple (.cons (.var 8) .nil)) .nil)))) .skip))))⟩
def fd_law_int : FD := ⟨3, 3, false, (.seq (.ret (.and (.isi (.var 0) "int") (.and (.not (.isi (.var 0) "bool")) (.chn .LtE .LtE (.var 1) (.var 0) (.var 2))))) .skip)⟩
def fd_law_is_watcher : FD := ⟨1, 1, false, (.seq (.iff (.or (.not (.isi (.var 0) "tuple")) (.cmp .NotEq (.blt false .len (.cons (.var 0) .nil)) (.lit (.int 7)))) (.seq (.ret (.lit (.bl false))) .skip) .skip) (.seq (.iff (.or (.not (.call 14 (.cons (.ix (.var 0) (.lit (.int 0))) (.cons (.neg (.op false .Pow (.lit (.int 10)) (.lit (.int 30)))) (.cons (.op false .Pow (.lit (.int 10)) (.lit (.int 30))) .nil))))) (.not (.call 14 (.cons (.ix (.var 0) (.lit (.int 1))) (.cons (.ix (.var 0) (.lit (.int 0))) (.cons (.op false .Pow (.lit (.int 10)) (.lit (.int 30))) .nil)))))) (.seq (.ret (.lit (.bl false))) .skip) .skip) (.seq (.iff (.or (.not (.call 14 (.cons (.ix (.var 0) (.lit (.int 2))) (.cons (.lit (.int 0)) (.cons (.lit (.int 3)) .nil))))) (.not (.call 14 (.cons (.ix (.var 0) (.lit (.int 3))) (.cons (.lit (.int 0)) (.cons (.lit (.int 3)) .nil)))))) (.seq (.ret (.lit (.bl false))) .skip) .skip) (.seq (.iff (.or (.not (.call 14 (.cons (.ix (.var 0) (.lit (.int 4))) (.cons (.lit (.int 1)) (.cons (.lit (.int 3)) .nil))))) (.not (.call 14 (.cons (.ix (.var 0) (.lit (.int 5))) (.cons (.lit (.int 1)) (.cons (.lit (.int 3)) .nil)))))) (.seq (.ret (.lit (.bl false))) .skip) .skip) (.seq (.ret (.and (.isi (.ix (.var 0) (.lit (.int 6))) "str") (.cmp .In (.ix (.var 0) (.lit (.int 6))) (.lst false (.cons (.lit (.str (Str.ofString "keep"))) (.cons (.lit (.str (Str.ofString "drop"))) .nil)))))) .skip)))))⟩
def fd_law_is_world : FD := ⟨1, 1, false, (.seq (.iff (.or (.not (.isi (.var 0) "tuple")) (.cmp .NotEq (.blt false .len (.cons (.var 0) .nil)) (.lit (.int 3)))) (.seq (.ret (.lit (.bl false))) .skip) .skip) (.seq (.ret (.and (.call 14 (.cons (.ix (.var 0) (.lit (.int 0))) (.cons (.lit (.int 0)) (.cons (.lit (.int 3)) .nil)))) (.and (.call 14 (.cons (.ix (.var 0) (.lit (.int 1))) (.cons (.lit (.int 0)) (.cons (.lit (.int 3)) .nil)))) (.call 14 (.cons (.ix (.var 0) (.lit (.int 2))) (.cons (.lit (.int 0)) (.cons (.lit (.int 2)) .nil))))))) .skip))⟩
def fd_law_is_walk : FD := ⟨2, 5, false, (.seq (.iff (.or (.not (.isi (.var 1) "tuple")) (.cmp .Gt (.blt false .len (.cons (.var 1) .nil)) (.lit (.int 100)))) (.seq (.ret (.lit (.bl false))) .skip) .skip) (.seq (.iff (.cmp .NotEq (.lc false [2] (.var 2) (.nm 2) (.sq (.var 1)) (.not (.call 14 (.cons (.var 2) (.cons (.neg (.op false .Pow (.lit (.int 10)) (.lit (.int 32)))) (.cons (.op false .Pow (.lit (.int 10)) (.lit (.int 32))) .nil)))))) (.lst false .nil)) (.seq (.ret (.lit (.bl false))) .skip) .skip) (.seq (.ret (.cmp .Eq (.lc false [3, 4] (.lit (.int 1)) (.tp (.cn (.nm 3) (.cn (.nm 4) .nl))) (.zp (.var 1) (.sl false (.var 1) (.lit (.int 1)) .nil)) (.cmp .Gt (.blt false .abs (.cons (.op false .Sub (.var 3) (.var 4)) .nil)) (.ix (.var 0) (.lit (.int 0))))) (.lst false .nil))) .skip)))⟩
def fd_law_anything : FD := ⟨2, 5, false, (.seq (.iff (.or (.cmp .Eq (.var 1) (.lit (.int 0))) (.cmp .Lt (.call 9 (.cons (.var 0) (.cons (.lit (.int 8)) .nil))) (.lit (.int 5)))) (.seq (.asg (.nm 3) (.lst false (.cons (.lit (.int 0)) (.cons (.lit (.int 1)) (.cons (.neg (.lit (.int 1))) (.cons (.lit (.int 2)) (.cons (.lit (.int 3)) (.cons (.lit (.int 4)) (.cons (.lit (.bl true)) (.cons (.lit (.bl false)) (.cons (.lit .non) (.cons (.lit (.str (Str.ofString ""))) (.cons (.lit (.str (Str.ofString "keep"))) (.cons (.lit (.str (Str.ofString "drop"))) (.cons (.tup .nil) (.cons (.lst false .nil) (.cons (.tup (.cons (.lit (.int 0)) (.cons (.lit (.int 1)) .nil))) (.cons (.tup (.cons (.lit (.int 1)) (.cons (.lit (.int 1)) (.cons (.lit (.int 1)) .nil)))) (.cons (.tup (.cons (.lit (.int 3)) (.cons (.lit (.int 3)) (.cons (.lit (.int 2)) .nil)))) .nil))))))))))))))))))) (.seq (.asg (.nm 3) (.op false .Add (.var 3) (.lst false (.cons (.tup (.cons (.lit (.int 0)) (.cons (.lit (.int 20)) (.cons (.lit (.int 0)) (.cons (.lit (.int 0)) (.cons (.lit (.int 1)) (.cons (.lit (.int 1)) (.cons (.lit (.str (Str.ofString "keep"))) .nil)))))))) (.cons (.tup (.cons (.lit (.int 5)) (.cons (.lit (.int 5)) (.cons (.lit (.int 3)) (.cons (.lit (.int 3)) (.cons (.lit (.int 3)) (.cons (.lit (.int 3)) (.cons (.lit (.str (Str.ofString "drop"))) .nil)))))))) (.cons (.tup (.cons (.lit (.int 4)) (.cons (.lit (.int 0)) (.cons (.lit (.int 0)) .nil)))) (.cons (.op false .Pow (.lit (.int 10)) (.lit (.int 33))) .nil))))))) (.seq (.ret (.call 10 (.cons (.var 0) (.cons (.var 3) .nil)))) .skip))) .skip) (.seq (.asg (.nm 2) (.lc false [4] (.call 18 (.cons (.var 0) (.cons (.op false .Sub (.var 1) (.lit (.int 1))) .nil))) (.nm 4) (.rg1 (.call 9 (.cons (.var 0) (.cons (.lit (.int 4)) .nil)))) (.lit (.bl true)))) (.seq (.ret (.ite (.cmp .Eq (.call 9 (.cons (.var 0) (.cons (.lit (.int 3)) .nil))) (.lit (.int 0))) (.var 2) (.blt false .tuple (.cons (.var 2) .nil)))) .skip)))⟩
def fd_law_bent : FD := ⟨2, 5, false, (.seq (.iff (.or (.not (.isi (.var 1) "tuple")) (.or (.cmp .Eq (.var 1) (.tup .nil)) (.cmp .Eq (.call 9 (.cons (.var 0) (.cons (.lit (.int 6)) .nil))) (.lit (.int 0))))) (.seq (.asg (.nm 2) (.lst false (.cons (.call 18 (.cons (.var 0) (.cons (.lit (.int 1)) .nil))) (.cons (.lst false (.cons (.var 1) .nil)) .nil)))) (.seq (.iff (.isi (.var 1) "str") (.seq (.asg (.nm 2) (.op false .Add (.var 2) (.lst false (.cons (.lit (.str (Str.ofString "keep"))) (.cons (.lit (.str (Str.ofString "drop"))) (.cons (.mt0 .upper (.var 1)) .nil)))))) .skip) (.seq (.iff (.isi (.var 1) "int") (.seq (.asg (.nm 2) (.op false .Add (.var 2) (.lst false (.cons (.op false .Add (.var 1) (.lit (.int 1))) (.cons (.op false .Sub (.var 1) (.lit (.int 1))) (.cons (.neg (.var 1)) (.cons (.not (.var 1)) .nil))))))) .skip) .skip) .skip)) (.seq (.ret (.call 10 (.cons (.var 0) (.cons (.var 2) .nil)))) .skip))) .skip) (.seq (.par2 3 4 (.cons (.call 9 (.cons (.var 0) (.cons (.blt false .len (.cons (.var 1) .nil)) .nil))) (.cons (.call 9 (.cons (.var 0) (.cons (.lit (.int 8)) .nil))) .nil))) (.seq (.iff (.cmp .Eq (.var 4) (.lit (.int 0))) (.seq (.ret (.op false .Add (.sl false (.var 1) .nil (.var 3)) (.sl false (.var 1) (.op false .Add (.var 3) (.lit (.int 1))) .nil))) .skip) .skip) (.seq (.iff (.cmp .Eq (.var 4) (.lit (.int 1))) (.seq (.ret (.op false .Add (.op false .Add (.sl false (.var 1) .nil (.var 3)) (.op false .Mult (.sl false (.var 1) (.var 3) (.op false .Add (.var 3) (.lit (.int 1)))) (.lit (.int 2)))) (.sl false (.var 1) (.op false .Add (.var 3) (.lit (.int 1))) .nil))) .skip) .skip) (.seq (.iff (.cmp .Eq (.var 4) (.lit (.int 2))) (.seq (.ret (.rev false (.var 1))) .skip) .skip) (.seq (.iff (.cmp .Eq (.var 4) (.lit (.int 3))) (.seq (.ret (.blt false .list (.cons (.var 1) .nil))) .skip) .skip) (.seq (.ret (.op false .Add (.op false .Add (.sl false (.var 1) .nil (.var 3)) (.tup (.cons (.call 19 (.cons (.var 0) (.cons (.ix (.var 1) (.var 3)) .nil))) .nil))) (.sl false (.var 1) (.op false .Add (.var 3) (.lit (.int 1))) .nil))) .skip)))))))⟩
def fd_law_right : FD := ⟨2, 6, false, (.seq (.asg (.nm 2) (.lst false (.cons (.call 15 (.cons (.var 1) .nil)) (.cons (.call 16 (.cons (.var 1) .nil)) (.cons (.call 17 (.cons (.var 0) (.cons (.var 1) .nil))) .nil))))) (.seq (.for_ (.nm 3) (.rg1 (.lit (.int 2))) (.seq (.asg (.nm 4) (.lst false (.cons (.call 4 (.cons (.var 1) .nil)) (.cons (.call 5 (.cons (.var 1) .nil)) (.cons (.call 7 (.cons (.var 0) (.cons (.var 1) .nil))) .nil))))) (.seq (.iff (.or (.cmp .NotEq (.var 4) (.var 2)) (.cmp .NotEq (.lc false [5] (.var 5) (.nm 5) (.sq (.var 4)) (.not (.isi (.var 5) "bool"))) (.lst false .nil))) (.seq (.ret (.lit (.bl false))) .skip) .skip) .skip))) (.seq (.ret (.lit (.bl true))) .skip)))⟩
def fd_law : FD := ⟨1, 12, false, (.seq (.for_ (.nm 1) (.rg1 (.blt false .max (.cons (.lit (.int 4)) (.cons (.blt false .min (.cons (.lit (.int 12)) (.cons (.op false .Add (.blt false .len (.cons (.var 0) .nil)) (.lit (.int 4))) .nil))) .nil)))) (.seq (.asg (.nm 4) (.call 8 (.cons (.var 0) (.cons (.var 1) .nil)))) (.seq (.for_ (.nm 5) (.rg1 (.lit (.int 8))) (.seq (.par2 10 11 (.cons (.call 11 (.cons (.var 4) (.cons (.lit (.int 9)) .nil))) (.cons (.call 12 (.cons (.var 4) .nil)) .nil))) (.seq (.asg (.nm 6) (.lst false (.cons (.var 10) (.cons (.var 11) (.cons (.ix (.call 13 (.cons (.var 4) (.cons (.var 10) (.cons (.var 11) (.cons (.lit (.int 5)) .nil))))) (.lit (.int 0))) .nil))))) (.seq (.asg (.nm 7) (.call 10 (.cons (.var 4) (.cons (.var 6) .nil)))) (.seq (.asg (.nm 8) (.call 19 (.cons (.var 4) (.cons (.var 7) .nil)))) (.seq (.for_ (.nm 9) (.sq (.lst false (.cons (.var 7) (.cons (.var 8) (.cons (.call 19 (.cons (.var 4) (.cons (.var 8) .nil))) (.cons (.call 18 (.cons (.var 4) (.cons (.lit (.int 2)) .nil))) .nil)))))) (.seq (.iff (.not (.call 20 (.cons (.var 11) (.cons (.var 9) .nil)))) (.seq (.ret (.lit (.bl false))) .skip) .skip) .skip)) .skip)))))) .skip))) (.seq (.asg (.nm 2) (.tup (.cons (.lit (.int 0)) (.cons (.lit (.int 3)) (.cons (.lit (.int 1)) (.cons (.lit (.int 3)) (.cons (.lit (.str (Str.ofString "keep"))) .nil))))))) (.seq (.asg (.nm 3) (.lst false (.cons (.op false .Add (.tup (.cons (.lit (.int 0)) (.cons (.lit (.int 0)) .nil))) (.var 2)) (.cons (.op false .Add (.tup (.cons (.lit (.int 1)) (.cons (.lit (.int 0)) .nil))) (.var 2)) (.cons (.op false .Add (.tup (.cons (.neg (.op false .Pow (.lit (.int 10)) (.lit (.int 30)))) (.cons (.op false .Pow (.lit (.int 10)) (.lit (.int 30))) .nil))) (.var 2)) (.cons (.op false .Add (.tup (.cons (.lit (.int 0)) (.cons (.op false .Add (.op false .Pow (.lit (.int 10)) (.lit (.int 30))) (.lit (.int 1))) .nil))) (.var 2)) (.cons (.op false .Add (.tup (.cons (.lit (.bl true)) (.cons (.lit (.int 2)) .nil))) (.var 2)) .nil))))))) (.seq (.asg (.nm 3) (.op false .Add (.var 3) (.lst false (.cons (.tup (.cons (.lit (.int 0)) (.cons (.lit (.int 1)) (.cons (.lit (.int 4)) (.cons (.lit (.int 0)) (.cons (.lit (.int 1)) (.cons (.lit (.int 1)) (.cons (.lit (.str (Str.ofString "keep"))) .nil)))))))) (.cons (.tup (.cons (.lit (.int 0)) (.cons (.lit (.int 1)) (.cons (.lit (.int 0)) (.cons (.neg (.lit (.int 1))) (.cons (.lit (.int 1)) (.cons (.lit (.int 1)) (.cons (.lit (.str (Str.ofString "keep"))) .nil)))))))) (.cons (.tup (.cons (.lit (.int 0)) (.cons (.lit (.int 1)) (.cons (.lit (.int 0)) (.cons (.lit (.int 0)) (.cons (.lit (.int 0)) (.cons (.lit (.int 1)) (.cons (.lit (.str (Str.ofString "keep"))) .nil)))))))) .nil)))))) (.seq (.asg (.nm 3) (.op false .Add (.var 3) (.lst false (.cons (.tup (.cons (.lit (.int 0)) (.cons (.lit (.int 1)) (.cons (.lit (.int 0)) (.cons (.lit (.int 0)) (.cons (.lit (.int 1)) (.cons (.lit (.int 4)) (.cons (.lit (.str (Str.ofString "keep"))) .nil)))))))) (.cons (.tup (.cons (.lit (.int 0)) (.cons (.lit (.int 1)) (.cons (.lit (.int 0)) (.cons (.lit (.int 0)) (.cons (.lit (.int 1)) (.cons (.lit (.int 1)) (.cons (.lit (.str (Str.ofString "Keep"))) .nil)))))))) (.cons (.tup (.cons (.lit (.int 0)) (.cons (.lit (.int 1)) (.cons (.lit (.int 0)) (.cons (.lit (.int 0)) (.cons (.lit (.int 1)) (.cons (.lit (.int 1)) .nil))))))) (.cons (.op false .Add (.lst false (.cons (.lit (.int 0)) (.cons (.lit (.int 0)) .nil))) (.blt false .list (.cons (.var 2) .nil))) .nil))))))) (.seq (.asg (.nm 3) (.op false .Add (.var 3) (.lst false (.cons (.tup (.cons (.lit (.int 3)) (.cons (.lit (.int 3)) (.cons (.lit (.int 2)) .nil)))) (.cons (.tup (.cons (.lit (.int 3)) (.cons (.lit (.int 3)) (.cons (.lit (.int 3)) .nil)))) (.cons (.tup (.cons (.lit (.int 4)) (.cons (.lit (.int 0)) (.cons (.lit (.int 0)) .nil)))) (.cons (.tup (.cons (.lit (.int 0)) (.cons (.lit (.int 4)) (.cons (.lit (.int 0)) .nil)))) (.cons (.tup (.cons (.lit (.int 0)) (.cons (.lit (.int 0)) (.cons (.lit (.bl true)) .nil)))) (.cons (.tup .nil) (.cons (.tup (.cons (.lit (.int 5)) .nil)) (.cons (.tup (.cons (.lit (.int 0)) (.cons (.lit (.int 2)) (.cons (.lit (.int 4)) .nil)))) (.cons (.tup (.cons (.lit (.int 0)) (.cons (.lit (.int 3)) .nil))) (.cons (.op false .Mult (.tup (.cons (.lit (.int 0)) .nil)) (.lit (.int 100))) .nil))))))))))))) (.seq (.asg (.nm 3) (.op false .Add (.var 3) (.lst false (.cons (.op false .Mult (.tup (.cons (.lit (.int 0)) .nil)) (.lit (.int 101))) (.cons (.tup (.cons (.op false .Pow (.lit (.int 10)) (.lit (.int 32))) .nil)) (.cons (.tup (.cons (.op false .Add (.op false .Pow (.lit (.int 10)) (.lit (.int 32))) (.lit (.int 1))) .nil)) (.cons (.lst false (.cons (.lit (.int 0)) (.cons (.lit (.int 1)) .nil))) (.cons (.tup (.cons (.lit (.int 0)) (.cons (.lit .non) .nil))) .nil)))))))) (.seq (.ret (.cmp .Eq (.lc false [7] (.var 7) (.nm 7) (.sq (.var 3)) (.not (.call 20 (.cons (.tup (.cons (.lit (.int 2)) (.cons (.lit (.int 1)) (.cons (.lit (.int 1)) .nil)))) (.cons (.var 7) .nil))))) (.lst false .nil))) .skip))))))))⟩
abbrev i_is_from : Nat := 0
abbrev i_is_good_watcher : Nat := 1
abbrev i_is_good_world : Nat := 2
abbrev i_need_world : Nat := 3
abbrev i_is_watcher : Nat := 4
abbrev i_is_world : Nat := 5
abbrev i_is_good_walk : Nat := 6
abbrev i_is_walk : Nat := 7
abbrev i_law_tun : Nat := 8
abbrev i_law_scoop : Nat := 9
abbrev i_law_any : Nat := 10
abbrev i_law_watcher : Nat := 11
abbrev i_law_world : Nat := 12
abbrev i_law_trip : Nat := 13
abbrev i_law_int : Nat := 14
abbrev i_law_is_watcher : Nat := 15
abbrev i_law_is_world : Nat := 16
abbrev i_law_is_walk : Nat := 17
abbrev i_law_anything : Nat := 18
abbrev i_law_bent : Nat := 19
abbrev i_law_right : Nat := 20
abbrev i_law : Nat := 21
def fds : List FD := [fd_is_from, fd_is_good_watcher, fd_is_good_world, fd_need_world, fd_is_watcher, fd_is_world, fd_is_good_walk, fd_is_walk, fd_law_tun, fd_law_scoop, fd_law_any, fd_law_watcher, fd_law_world, fd_law_trip, fd_law_int, fd_law_is_watcher, fd_law_is_world, fd_law_is_walk, fd_law_anything, fd_law_bent, fd_law_right, fd_law]
def cvals : Nat → T := fun c => match c with
  | 0 => (.int 100000000000000000000000000000000)
  | _ => .non
def prg : Prg := ⟨fun f => fds[f]?, cvals, fun _ => none, 100000⟩
def lw : LW := ⟨[⟨"is_from", top 5, ["value", "low", "high"], ["value", "low", "high"], fd_is_from⟩,
  ⟨"is_good_watcher", top 6, ["value", "margin", "many", "edge"], ["value"], fd_is_good_watcher⟩,
  ⟨"is_good_world", top 7, ["value", "part"], ["value"], fd_is_good_world⟩,
  ⟨"need_world", top 8, ["value"], ["value"], fd_need_world⟩,
  ⟨"is_watcher", top 9, ["value"], ["value"], fd_is_watcher⟩,
  ⟨"is_world", top 10, ["value"], ["value"], fd_is_world⟩,
  ⟨"is_good_walk", top 12, ["world", "value", "one", "other", "place"], ["world", "value"], fd_is_good_walk⟩,
  ⟨"is_walk", top 13, ["world", "value"], ["world", "value"], fd_is_walk⟩,
  ⟨"_law_tun", top 15, ["_law_script", "_law_k", "_law_cell"], ["_law_script", "_law_k"], fd_law_tun⟩,
  ⟨"_law_scoop", top 16, ["_law_tun_here", "_law_wide", "_law_stirred", "_law_found"], ["_law_tun_here", "_law_wide"], fd_law_scoop⟩,
  ⟨"_law_any", top 17, ["_law_tun_here", "_law_things"], ["_law_tun_here", "_law_things"], fd_law_any⟩,
  ⟨"_law_watcher", top 18, ["_law_tun_here", "_law_wide", "_law_low", "_law_high", "_law_rows_so", "_law_margins"], ["_law_tun_here", "_law_wide"], fd_law_watcher⟩,
  ⟨"_law_world", top 19, ["_law_tun_here"], ["_law_tun_here"], fd_law_world⟩,
  ⟨"_law_trip", top 20, ["_law_tun_here", "_law_watcher_so", "_law_world_so", "_law_many", "_law_here", "_law_turn", "_law_lost", "_law_walk_so", "_law_looks_so", "_law_look"], ["_law_tun_here", "_law_watcher_so", "_law_world_so", "_law_many"], fd_law_trip⟩,
  ⟨"_law_int", top 21, ["_law_thing", "_law_least", "_law_most"], ["_law_thing", "_law_least", "_law_most"], fd_law_int⟩,
  ⟨"_law_is_watcher", top 22, ["_law_thing"], ["_law_thing"], fd_law_is_watcher⟩,
  ⟨"_law_is_world", top 23, ["_law_thing"], ["_law_thing"], fd_law_is_world⟩,
  ⟨"_law_is_walk", top 24, ["_law_world_so", "_law_thing", "_law_here", "_law_first", "_law_last"], ["_law_world_so", "_law_thing"], fd_law_is_walk⟩,
  ⟨"_law_anything", top 25, ["_law_tun_here", "_law_depth_so", "_law_items", "_law_things", "_law_turn"], ["_law_tun_here", "_law_depth_so"], fd_law_anything⟩,
  ⟨"_law_bent", top 26, ["_law_tun_here", "_law_thing", "_law_things", "_law_at", "_law_kind"], ["_law_tun_here", "_law_thing"], fd_law_bent⟩,
  ⟨"_law_right", top 27, ["_law_world_so", "_law_thing", "_law_due", "_law_turn", "_law_found", "_law_good"], ["_law_world_so", "_law_thing"], fd_law_right⟩,
  ⟨"law", top 28, ["_law_script", "_law_k", "_law_tail", "_law_due", "_law_tun_here", "_law_turn", "_law_things", "_law_thing", "_law_bent_here", "_law_good", "_law_watcher_so", "_law_world_so"], ["_law_script"], fd_law⟩], ["FAR"], ["WatchError", "InvalidWorld"], ["abs", "all", "bool", "int", "isinstance", "len", "list", "max", "min", "range", "str", "tuple", "zip"], prg⟩
theorem lw_tab : ∀ f, lw.prg.tab f = (lw.ds[f]?).map (·.fd) := fun f => by
  show fds[f]? = _
  have e : fds = lw.ds.map (·.fd) := rfl
  rw [e, List.getElem?_map]
theorem lw_ok : lw.ds.all lw.okD = true := by decide +kernel
end Fw

namespace Fw
open PySem L2 PyProof.Rows
/-! ## tun, scoop, any -/
theorem tun_ok (n : Nat) (k : Nat) (S : Sto) (ns : List Int) : ∃ S', run prg (n + 1) i_law_tun [.scr ns, .int k] S = some (.ok (.box S.length) (S ++ [S'])) ∧ ∃ a b : Int, S' = .lst [.int a, .int b] ∧ 0 ≤ a ∧ 0 ≤ b ∧ b < 2147477807 := by
  rw [run_succ prg n i_law_tun _ S fd_law_tun rfl rfl]
  have hp : bop .Pow (.int 10) (.int 18) = some (.int 1000000000000000000) := by simp [bop]
  have fin : ∀ c : Int, 0 ≤ c → ∃ S', (some (Out.ok (T.box S.length) (S ++ [Ob.lst [if (1000000000000000000:Int) ≤ c then T.int c else T.int 0, T.int ((c % 2147477807 + 30197 * k + 811) % 2147477807)]])) : Res) = some (.ok (.box S.length) (S ++ [S'])) ∧ ∃ a b : Int, S' = .lst [.int a, .int b] ∧ 0 ≤ a ∧ 0 ≤ b ∧ b < 2147477807 := by
    intro c hc
    refine ⟨_, rfl, (if (1000000000000000000:Int) ≤ c then c else 0), ((c % 2147477807 + 30197 * k + 811) % 2147477807), ?_, ?_, Int.emod_nonneg _ (by decide), Int.emod_lt_of_pos _ (by decide)⟩
    · split <;> rfl
    · split <;> omega
  by_cases hk : (k : Int) < ns.length
  · have hk' : k < ns.length := by omega
    have e : ixT S (.scr ns) (.int k) = some (.int ns[k]) := by
      simp [ixT, atI_k ns k hk', List.getElem?_eq_getElem hk']
    obtain ⟨c, hc⟩ : ∃ c : Int, c = (if ns[k] < 0 then -ns[k] else ns[k]) := ⟨_, rfl⟩
    have hc0 : 0 ≤ c := by subst hc; split <;> omega
    obtain ⟨S', e1, e2⟩ := fin c hc0
    refine ⟨S', ?_, e2⟩
    rw [← e1]
    by_cases h18 : (1000000000000000000:Int) ≤ c
    · simp [fd_law_tun, init, hk', e, bindT, hp, bo_mod_s, bo_mulL, small64, line, h18, ← hc]
    · simp [fd_law_tun, init, hk', e, bindT, hp, bo_mod_s, bo_mulL, small64, line, h18, ← hc]
  · have hk' : ¬ k < ns.length := by omega
    have hc0 : 0 ≤ 109 * (k : Int) + 71 := by omega
    obtain ⟨S', e1, e2⟩ := fin (109 * (k : Int) + 71) hc0
    refine ⟨S', ?_, e2⟩
    rw [← e1]
    by_cases h18 : (1000000000000000000:Int) ≤ 109 * (k : Int) + 71
    · simp [fd_law_tun, init, hk', bindT, hp, bo_mod_s, bo_mulL, small64, line, h18]
    · simp [fd_law_tun, init, hk', bindT, hp, bo_mod_s, bo_mulL, small64, line, h18]

theorem scoop_ok (n : Nat) (k : Nat) (S : Sto) (w : Int) (h : Tn S k) (hw : 0 < w) (hw2 : w < 1073741824) :
    ∃ r S', run prg (n + 1) i_law_scoop [.box k, .int w] S = some (.ok (.int r) S') ∧ 0 ≤ r ∧ r < w ∧ Tw k S S' := by
  obtain ⟨a, b, h, ha, hb, hb2⟩ := h
  have hk : k < S.length := (List.getElem?_eq_some_iff.mp h).1
  rw [run_succ prg n i_law_scoop _ S fd_law_scoop rfl rfl]
  by_cases h0 : 0 < a
  · refine ⟨a % w, S.set k (.lst [.int (a / w), .int b]), ?_, Int.emod_nonneg _ (by omega), Int.emod_lt_of_pos _ hw, hk, _, _, rfl, ?_, hb, hb2⟩
    · simp [fd_law_scoop, init, ix_box h, bo_mod hw, bo_fdiv hw hw2, h0, bindT, wSub, h, ixN, fin1_le]
    · exact Int.ediv_nonneg ha (by omega)
  · have h3 : S[k]? = some (Ob.lst [T.int a, T.int b]) := h
    have c1 : 0 ≤ (b * 46507 + 7001) % 2147477807 := Int.emod_nonneg _ (by decide)
    have c2 : (b * 46507 + 7001) % 2147477807 < 2147477807 := Int.emod_lt_of_pos _ (by decide)
    obtain ⟨c, hc⟩ : ∃ c : Int, c = (b * 46507 + 7001) % 2147477807 := ⟨_, rfl⟩
    rw [← hc] at c1 c2
    have hc64 : small64 c = true := by simp [small64]; omega
    have h2 : (S.set k (.lst [.int a, .int c]))[k]? = some (.lst [.int a, .int c]) := by simp [hk]
    refine ⟨c * (c / 71 + 53) % 2147477797 / 37 % w, S.set k (.lst [.int a, .int c]), ?_, Int.emod_nonneg _ (by omega), Int.emod_lt_of_pos _ hw, hk, _, _, rfl, ha, c1, c2⟩
    have i1 : atI [T.int a, T.int b] 1 = some (.int b) := by simp [atI, ixN]
    have i2 : atI [T.int a, T.int c] 1 = some (.int c) := by simp [atI, ixN]
    simp [fd_law_scoop, init, ix_box h, ix_box h2, i1, i2, bo_mod hw, bo_mod_s, bo_fdiv, h0, bindT, wSub, h, ixN, fin1_le, bo_mulR (i := b) (j := 46507) (by decide), ← hc, bo_mulL hc64]

theorem any_ok (n : Nat) (k : Nat) (S : Sto) (l : List T) (h : Tn S k) (hl : l ≠ []) (hl2 : l.length < 1073741824) :
    ∃ t S', run prg (n + 2) i_law_any [.box k, .lst l] S = some (.ok t S') ∧ t ∈ l ∧ Tw k S S' := by
  have hp : 0 < l.length := List.length_pos_iff.mpr hl
  obtain ⟨r, S', e, h0, h1, w⟩ := scoop_ok n k S l.length h (by omega) (by omega)
  obtain ⟨t, et, hm⟩ := atI_nat (l := l) h0 (by omega)
  refine ⟨t, S', ?_, hm, w⟩
  rw [run_succ prg (n + 1) i_law_any _ S fd_law_any rfl rfl]
  simp [fd_law_any, init, e, et, fin1_le, w.len]
end Fw

namespace Fw
open PySem L2 PyProof.Rows
/-! ## is_from, is_good_watcher -/
def pl : T → Bool
  | .non => true
  | .bl _ => true
  | .int _ => true
  | .str _ => true
  | .tup _ => true
  | .lst _ => true
  | _ => false
@[simp] theorem pl_int (i : Int) : pl (.int i) = true := id rfl
@[simp] theorem pl_str (i : Str) : pl (.str i) = true := id rfl
def isI (lo hi : Int) : T → Bool
  | .int i => decide (lo ≤ i) && decide (i ≤ hi)
  | _ => false
theorem isI_int {lo hi : Int} {t : T} (h : isI lo hi t = true) : ∃ i, t = .int i ∧ lo ≤ i ∧ i ≤ hi := by
  cases t <;> simp [isI] at h
  exact ⟨_, rfl, h⟩
theorem is_from_ok (n : Nat) (t : T) (lo hi : Int) (S : Sto) (ht : pl t = true) : run prg (n + 1) i_is_from [t, .int lo, .int hi] S = some (.ok (.bl (isI lo hi t)) S) := by
  rw [run_succ prg n i_is_from _ S fd_is_from rfl rfl]
  cases t with
  | int i =>
    by_cases h1 : lo ≤ i
    · simp [fd_is_from, init, isiT, tyT, isI, h1]
    · simp [fd_is_from, init, isiT, tyT, isI, h1]
  | non => simp [fd_is_from, init, isiT, tyT, isI]
  | bl b => simp [fd_is_from, init, isiT, tyT, isI]
  | str b => simp [fd_is_from, init, isiT, tyT, isI]
  | tup b => simp [fd_is_from, init, isiT, tyT, isI]
  | lst b => simp [fd_is_from, init, isiT, tyT, isI]
  | _ => simp [pl] at ht
def pl2 (t : T) : Prop := pl t = true ∧ ∀ l, t = .tup l → ∀ x ∈ l, pl x = true
def isKD : T → Bool
  | .str s => (Str.ofString "keep") == s || (Str.ofString "drop") == s
  | _ => false
def leT : T → T → Bool
  | .int i, .int j => decide (i ≤ j)
  | _, _ => false
def goodW : T → Bool
  | .tup [a, b, c, d, e, f, g] => isI (-1000000000000000000000000000000) 1000000000000000000000000000000 a && isI (-1000000000000000000000000000000) 1000000000000000000000000000000 b && leT a b && isI 0 3 c && isI 0 3 d && isI 1 3 e && isI 1 3 f && isKD g
  | _ => false
theorem in_kd (S : Sto) (s : Str) (l : List T) (hl : ∀ S, drf S (.tup l) = .tup l) (e : l = [.str (Str.ofString "keep"), .str (Str.ofString "drop")]) : cop S .In (.str s) (.tup l) = some (isKD (.str s)) := by
  subst e
  simp [cop, inT, toD, toDs, PyData.depth, PyData.eqv, isKD]
theorem in_kd2 (S : Sto) (s : Str) : cop S .In (.str s) (.tup [.str (Str.ofString "keep"), .str (Str.ofString "drop")]) = some (isKD (.str s)) := in_kd S s _ (fun _ => rfl) rfl
theorem in_kdL (S : Sto) (s : Str) : cop S .In (.str s) (.lst [.str (Str.ofString "keep"), .str (Str.ofString "drop")]) = some (isKD (.str s)) := by
  simp [cop, inT, toD, toDs, PyData.depth, PyData.eqv, isKD]
@[simp] theorem pow30 : bop .Pow (.int 10) (.int 30) = some (.int 1000000000000000000000000000000) := by simp [bop]
@[simp] theorem at7 (a b c d e f g : T) : atI [a, b, c, d, e, f, g] 1 = some b ∧ atI [a, b, c, d, e, f, g] 2 = some c ∧ atI [a, b, c, d, e, f, g] 3 = some d ∧ atI [a, b, c, d, e, f, g] 4 = some e ∧ atI [a, b, c, d, e, f, g] 5 = some f ∧ atI [a, b, c, d, e, f, g] 6 = some g := by
  simp [atI, ixN]
@[simp] theorem at3 (a b c : T) : atI [a, b, c] 1 = some b ∧ atI [a, b, c] 2 = some c := by
  simp [atI, ixN]
theorem len7 {α : Type} {l : List α} (h : l.length = 7) : ∃ a b c d e f g, l = [a, b, c, d, e, f, g] := by
  match l, h with
  | [a, b, c, d, e, f, g], _ => exact ⟨a, b, c, d, e, f, g, rfl⟩
theorem len3 {α : Type} {l : List α} (h : l.length = 3) : ∃ a b c, l = [a, b, c] := by
  match l, h with
  | [a, b, c], _ => exact ⟨a, b, c, rfl⟩
theorem goodW_len {l : List T} (h : l.length ≠ 7) : goodW (.tup l) = false := by
  unfold goodW
  split
  · simp_all
  · rfl
theorem goodW_ne {t : T} (h : ∀ l, t ≠ .tup l) : goodW t = false := by
  cases t <;> first | rfl | exact absurd rfl (h _)
theorem igw_ok (n : Nat) (t : T) (S : Sto) (h2 : pl2 t) : run prg (n + 2) i_is_good_watcher [t] S = some (.ok (.bl (goodW t)) S) := by
  rw [run_succ prg (n + 1) i_is_good_watcher _ S fd_is_good_watcher rfl rfl]
  obtain ⟨ht, hl⟩ := h2
  cases t with
  | tup l =>
    by_cases h7 : l.length = 7
    · obtain ⟨a, b, c, d, e, f, g, rfl⟩ := len7 h7
      have hp := hl _ rfl
      have ha := hp a (by simp); have hb := hp b (by simp); have hc := hp c (by simp); have hd := hp d (by simp); have he := hp e (by simp); have hf := hp f (by simp); have hg := hp g (by simp)
      cases qa : isI (-1000000000000000000000000000000) 1000000000000000000000000000000 a with
      | false => simp [fd_is_good_watcher, init, isiT, tyT, cutL, HT.sIx, lcL, lcT, bindT, wipeR, line, is_from_ok, ha, hb, boolsOf, qa, goodW]
      | true =>
      obtain ⟨i, rfl, _, _⟩ := isI_int qa
      cases qb : isI (-1000000000000000000000000000000) 1000000000000000000000000000000 b with
      | false => simp [fd_is_good_watcher, init, isiT, tyT, cutL, HT.sIx, lcL, lcT, bindT, wipeR, line, is_from_ok, ha, hb, boolsOf, qa, qb, goodW]
      | true =>
      obtain ⟨j, rfl, _, _⟩ := isI_int qb
      by_cases hij : i ≤ j
      · have hij' : ¬ j < i := by omega
        cases qc : isI 0 3 c with
        | false => simp [fd_is_good_watcher, init, isiT, tyT, cutL, HT.sIx, lcL, lcT, bindT, wipeR, line, is_from_ok, hc, hd, boolsOf, qa, qb, qc, goodW, hij', leT, hij]
        | true =>
        cases qd : isI 0 3 d with
        | false => simp [fd_is_good_watcher, init, isiT, tyT, cutL, HT.sIx, lcL, lcT, bindT, wipeR, line, is_from_ok, hc, hd, boolsOf, qa, qb, qc, qd, goodW, hij', leT, hij]
        | true =>
        cases qe : isI 1 3 e with
        | false => simp [fd_is_good_watcher, init, isiT, tyT, cutL, HT.sIx, lcL, lcT, bindT, wipeR, line, is_from_ok, hc, hd, he, hf, boolsOf, qa, qb, qc, qd, qe, goodW, hij', leT, hij]
        | true =>
        cases qf : isI 1 3 f with
        | false => simp [fd_is_good_watcher, init, isiT, tyT, cutL, HT.sIx, lcL, lcT, bindT, wipeR, line, is_from_ok, hc, hd, he, hf, boolsOf, qa, qb, qc, qd, qe, qf, goodW, hij', leT, hij]
        | true =>
        cases g with
        | str s => simp [fd_is_good_watcher, init, isiT, tyT, cutL, HT.sIx, lcL, lcT, bindT, wipeR, line, is_from_ok, hc, hd, he, hf, boolsOf, qa, qb, qc, qd, qe, qf, goodW, hij', leT, hij, in_kd2]
        | fn s => simp [pl] at hg
        | box s => simp [pl] at hg
        | scr s => simp [pl] at hg
        | _ => simp [fd_is_good_watcher, init, isiT, tyT, cutL, HT.sIx, lcL, lcT, bindT, wipeR, line, is_from_ok, hc, hd, he, hf, boolsOf, qa, qb, qc, qd, qe, qf, goodW, hij', leT, hij, isKD]
      · have hij' : j < i := by omega
        simp [fd_is_good_watcher, init, isiT, tyT, cutL, HT.sIx, lcL, lcT, bindT, wipeR, line, is_from_ok, ha, hb, boolsOf, qa, qb, goodW, hij', leT, hij]
    · have h7' : ¬ (l.length : Int) = 7 := by omega
      simp [fd_is_good_watcher, init, isiT, tyT, h7', goodW_len h7]
  | fn s => simp [pl] at ht
  | box s => simp [pl] at ht
  | scr s => simp [pl] at ht
  | _ => simp [fd_is_good_watcher, init, isiT, tyT, goodW]
end Fw

namespace Fw
open PySem L2 PyProof.Rows
/-! ## is_good_world, is_good_walk -/
def goodWd : T → Bool
  | .tup [a, b, c] => isI 0 3 a && isI 0 3 b && isI 0 2 c
  | _ => false
theorem goodWd_len {l : List T} (h : l.length ≠ 3) : goodWd (.tup l) = false := by
  unfold goodWd
  split
  · simp_all
  · rfl
theorem igd_ok (n : Nat) (t : T) (S : Sto) (hpl : pl2 t) : run prg (n + 2) i_is_good_world [t] S = some (.ok (.bl (goodWd t)) S) := by
  rw [run_succ prg (n + 1) i_is_good_world _ S fd_is_good_world rfl rfl]
  obtain ⟨ht, hl⟩ := hpl
  cases t with
  | tup l =>
    by_cases h7 : l.length = 3
    · obtain ⟨a, b, c, rfl⟩ := len3 h7
      have hp := hl _ rfl
      have ha := hp a (by simp); have hb := hp b (by simp); have hc := hp c (by simp)
      cases qa : isI 0 3 a with
      | false => simp [fd_is_good_world, init, isiT, tyT, cutL, HT.sIx, lcL, lcT, bindT, wipeR, line, is_from_ok, ha, hb, boolsOf, qa, goodWd]
      | true =>
      cases qb : isI 0 3 b with
      | false => simp [fd_is_good_world, init, isiT, tyT, cutL, HT.sIx, lcL, lcT, bindT, wipeR, line, is_from_ok, ha, hb, boolsOf, qa, qb, goodWd]
      | true => simp [fd_is_good_world, init, isiT, tyT, cutL, HT.sIx, lcL, lcT, bindT, wipeR, line, is_from_ok, ha, hb, hc, boolsOf, qa, qb, goodWd]
    · have h7' : ¬ (l.length : Int) = 3 := by omega
      simp [fd_is_good_world, init, isiT, tyT, h7', goodWd_len h7]
  | fn s => simp [pl] at ht
  | box s => simp [pl] at ht
  | scr s => simp [pl] at ht
  | _ => simp [fd_is_good_world, init, isiT, tyT, goodWd]
theorem need_world_ok (n : Nat) (t : T) (S : Sto) (hpl : pl2 t) (hg : goodWd t = true) : run prg (n + 3) i_need_world [t] S = some (.ok .non S) := by
  rw [run_succ prg (n + 2) i_need_world _ S fd_need_world rfl rfl]
  simp [fd_need_world, init, igd_ok, hpl, hg]
/-- a world -/
def mkWd (a b c : Int) : T := .tup [.int a, .int b, .int c]
def WdOk (a b c : Int) : Prop := 0 ≤ a ∧ a ≤ 3 ∧ 0 ≤ b ∧ b ≤ 3 ∧ 0 ≤ c ∧ c ≤ 2
theorem mkWd_pl (a b c : Int) : pl2 (mkWd a b c) := by
  refine ⟨rfl, fun l h x hx => ?_⟩
  unfold mkWd at h
  cases h
  simp at hx
  rcases hx with rfl | rfl | rfl <;> rfl
theorem mkWd_good {a b c : Int} (h : WdOk a b c) : goodWd (mkWd a b c) = true := by
  obtain ⟨h1, h2, h3, h4, h5, h6⟩ := h
  simp [goodWd, mkWd, isI, h1, h2, h3, h4, h5, h6]

def FARi : Int := 100000000000000000000000000000000
def absI (i : Int) : Int := if i < 0 then -i else i
def stepB (r : Int) : T → Bool
  | .tup [.int a, .int b] => decide (absI (a - b) ≤ r)
  | _ => true
def goodWk (r : Int) : T → Bool
  | .tup l => decide (l.length ≤ 100) && (l.all (isI (-100000000000000000000000000000000) 100000000000000000000000000000000) && (zipT l l.tail).all (stepB r))
  | _ => false
theorem all_int {lo hi : Int} : ∀ {l : List T}, l.all (isI lo hi) = true → ∃ ns : List Int, l = ns.map T.int
  | [], _ => ⟨[], rfl⟩
  | t :: l, h => by
    simp only [List.all_cons, Bool.and_eq_true] at h
    obtain ⟨i, rfl, _⟩ := isI_int h.1
    obtain ⟨ns, rfl⟩ := all_int h.2
    exact ⟨i :: ns, rfl⟩
theorem zipT_int : ∀ {a b : List Int} {x : T}, x ∈ zipT (a.map T.int) (b.map T.int) → ∃ i j, x = .tup [.int i, .int j]
  | [], _, x, h => by simp [zipT] at h
  | _ :: _, [], x, h => by simp [zipT] at h
  | i :: a, j :: b, x, h => by
    simp only [List.map_cons, zipT, List.mem_cons] at h
    rcases h with rfl | h
    · exact ⟨_, _, rfl⟩
    · exact zipT_int h
theorem cutL_1 (l : List T) : cutL l (some 1) none = l.tail := by
  cases l with
  | nil => rfl
  | cons a l =>
    simp [cutL, HT.sIx]
theorem boolsOf_map {α : Type} (f : α → Bool) : ∀ l : List α, boolsOf (l.map fun x => .bl (f x)) = some (l.map f)
  | [] => rfl
  | x :: l => by simp [boolsOf, boolsOf_map f l]
theorem filterMap_some_eq {α β : Type} (f : α → β) (l : List α) : l.filterMap (fun x => some (f x)) = l.map f := by
  induction l with
  | nil => rfl
  | cons a l ih => simp [ih]
theorem all_map_id {α : Type} (f : α → Bool) (l : List α) : (l.map f).all id = l.all f := by
  induction l with
  | nil => rfl
  | cons a l ih => simp [ih]
@[simp] theorem prg_cv : prg.cv = cvals := rfl
theorem igk_ok (n : Nat) (a b c : Int) (t : T) (S : Sto) (hpl : pl2 t) : run prg (n + 2) i_is_good_walk [mkWd a b c, t] S = some (.ok (.bl (goodWk a t)) S) := by
  rw [run_succ prg (n + 1) i_is_good_walk _ S fd_is_good_walk rfl rfl]
  obtain ⟨ht, hl⟩ := hpl
  cases t with
  | tup l =>
    by_cases h1 : 100 < (l.length : Int)
    · have h2 : ¬ l.length ≤ 100 := by omega
      simp [fd_is_good_walk, init, isiT, tyT, goodWk, h1, h2]
    have h2 : l.length ≤ 100 := by omega
    have hp := hl _ rfl
    have e1 : lcL (lcT ⟨run prg (n + 1), cvals, prg.lam, prg.wf⟩ (IE.call i_is_from ((IE.var 4).cons ((IE.op false .Sub (IE.lit (.int 0)) (IE.cst 0)).cons ((IE.cst 0).cons IE.nil)))) (.nm 4) (.lit (.bl true)) [some (mkWd a b c), some (.tup l), none, none, none]) l [] S
        = some ([] ++ l.filterMap (fun x => some (.bl (isI (-100000000000000000000000000000000) 100000000000000000000000000000000 x))), S) := by
      refine lcL_pure (fun x hx => ?_) (by simp [line]; omega)
      simp [lcT, bindT, cvals, is_from_ok, hp x hx]
    rw [List.nil_append, filterMap_some_eq] at e1
    cases q : l.all (isI (-100000000000000000000000000000000) 100000000000000000000000000000000) with
    | false => simp [fd_is_good_walk, init, isiT, tyT, goodWk, h1, h2, wipeR, e1, boolsOf_map, all_map_id, q]
    | true =>
    obtain ⟨ns, hns⟩ := all_int q
    have e2 : lcL (lcT ⟨run prg (n + 1), cvals, prg.lam, prg.wf⟩ (IE.cmp .LtE (IE.blt false .abs ((IE.op false .Sub (IE.var 2) (IE.var 3)).cons IE.nil)) (IE.ix (IE.var 0) (IE.lit (.int 0)))) (.tp (.cn (.nm 2) (.cn (.nm 3) .nl))) (.lit (.bl true)) [some (mkWd a b c), some (.tup l), none, none, none]) (zipT l l.tail) [] S
        = some ([] ++ (zipT l l.tail).filterMap (fun x => some (.bl (stepB a x))), S) := by
      refine lcL_pure (fun x hx => ?_) (by
        rw [zipT_len]
        simp only [line, List.length_nil]; omega)
      rw [hns, ← List.map_tail] at hx
      obtain ⟨i, j, rfl⟩ := zipT_int hx
      simp [lcT, bindT, stepB, absI, mkWd]
      rfl
    rw [List.nil_append, filterMap_some_eq] at e2
    simp [fd_is_good_walk, init, isiT, tyT, goodWk, h1, h2, wipeR, e1, boolsOf_map, all_map_id, q, cutL_1, e2]
  | fn s => simp [pl] at ht
  | box s => simp [pl] at ht
  | scr s => simp [pl] at ht
  | _ => simp [fd_is_good_walk, init, isiT, tyT, goodWk]
end Fw

namespace Fw
open PySem L2 PyProof.Rows
/-! ## the law's own words -/
@[simp] theorem pow32 : bop .Pow (.int 10) (.int 32) = some (.int 100000000000000000000000000000000) := by simp [bop]
theorem law_int_ok (n : Nat) (t : T) (lo hi : Int) (S : Sto) (ht : pl t = true) : run prg (n + 1) i_law_int [t, .int lo, .int hi] S = some (.ok (.bl (isI lo hi t)) S) := by
  rw [run_succ prg n i_law_int _ S fd_law_int rfl rfl]
  cases t with
  | int i =>
    by_cases h1 : lo ≤ i
    · simp [fd_law_int, init, isiT, tyT, isI, h1]
    · simp [fd_law_int, init, isiT, tyT, isI, h1]
  | non => simp [fd_law_int, init, isiT, tyT, isI]
  | bl b => simp [fd_law_int, init, isiT, tyT, isI]
  | str b => simp [fd_law_int, init, isiT, tyT, isI]
  | tup b => simp [fd_law_int, init, isiT, tyT, isI]
  | lst b => simp [fd_law_int, init, isiT, tyT, isI]
  | _ => simp [pl] at ht
theorem isI_le {i : Int} {t : T} (hi : -1000000000000000000000000000000 ≤ i) : isI i 1000000000000000000000000000000 t = (isI (-1000000000000000000000000000000) 1000000000000000000000000000000 t && leT (.int i) t) := by
  cases t <;> simp [isI, leT]
  rename_i j
  by_cases h : i ≤ j
  · have : -1000000000000000000000000000000 ≤ j := by omega
    simp [h, this]
  · simp [h]
theorem liw_ok (n : Nat) (t : T) (S : Sto) (h2 : pl2 t) : run prg (n + 2) i_law_is_watcher [t] S = some (.ok (.bl (goodW t)) S) := by
  rw [run_succ prg (n + 1) i_law_is_watcher _ S fd_law_is_watcher rfl rfl]
  obtain ⟨ht, hl⟩ := h2
  cases t with
  | tup l =>
    by_cases h7 : l.length = 7
    · obtain ⟨a, b, c, d, e, f, g, rfl⟩ := len7 h7
      have hp := hl _ rfl
      have ha := hp a (by simp); have hb := hp b (by simp); have hc := hp c (by simp); have hd := hp d (by simp); have he := hp e (by simp); have hf := hp f (by simp); have hg := hp g (by simp)
      cases qa : isI (-1000000000000000000000000000000) 1000000000000000000000000000000 a with
      | false => simp [fd_law_is_watcher, init, isiT, tyT, law_int_ok, ha, hb, qa, goodW]
      | true =>
      obtain ⟨i, rfl, hi1, hi2⟩ := isI_int qa
      cases qb : isI i 1000000000000000000000000000000 b with
      | false =>
        have qb2 := qb
        rw [isI_le hi1] at qb
        simp only [Bool.and_eq_false_iff] at qb
        rcases qb with qb | qb <;> simp [fd_law_is_watcher, init, isiT, tyT, law_int_ok, ha, hb, qa, qb, qb2, goodW]
      | true =>
        have qb2 := qb
        rw [isI_le hi1, Bool.and_eq_true] at qb2
        obtain ⟨qb3, qb4⟩ := qb2
        cases qc : isI 0 3 c with
        | false => simp [fd_law_is_watcher, init, isiT, tyT, law_int_ok, ha, hb, hc, qa, qb, qb3, qb4, qc, goodW]
        | true =>
        cases qd : isI 0 3 d with
        | false => simp [fd_law_is_watcher, init, isiT, tyT, law_int_ok, ha, hb, hc, hd, qa, qb, qb3, qb4, qc, qd, goodW]
        | true =>
        cases qe : isI 1 3 e with
        | false => simp [fd_law_is_watcher, init, isiT, tyT, law_int_ok, ha, hb, hc, hd, he, qa, qb, qb3, qb4, qc, qd, qe, goodW]
        | true =>
        cases qf : isI 1 3 f with
        | false => simp [fd_law_is_watcher, init, isiT, tyT, law_int_ok, ha, hb, hc, hd, he, hf, qa, qb, qb3, qb4, qc, qd, qe, qf, goodW]
        | true =>
        cases g with
        | str s => simp [fd_law_is_watcher, init, isiT, tyT, law_int_ok, ha, hb, hc, hd, he, hf, qa, qb, qb3, qb4, qc, qd, qe, qf, goodW, line, in_kdL]
        | fn s => simp [pl] at hg
        | box s => simp [pl] at hg
        | scr s => simp [pl] at hg
        | _ => simp [fd_law_is_watcher, init, isiT, tyT, law_int_ok, ha, hb, hc, hd, he, hf, qa, qb, qb3, qb4, qc, qd, qe, qf, goodW, isKD]
    · have h7' : ¬ (l.length : Int) = 7 := by omega
      simp [fd_law_is_watcher, init, isiT, tyT, h7', goodW_len h7]
  | fn s => simp [pl] at ht
  | box s => simp [pl] at ht
  | scr s => simp [pl] at ht
  | _ => simp [fd_law_is_watcher, init, isiT, tyT, goodW]
theorem liwd_ok (n : Nat) (t : T) (S : Sto) (h2 : pl2 t) : run prg (n + 2) i_law_is_world [t] S = some (.ok (.bl (goodWd t)) S) := by
  rw [run_succ prg (n + 1) i_law_is_world _ S fd_law_is_world rfl rfl]
  obtain ⟨ht, hl⟩ := h2
  cases t with
  | tup l =>
    by_cases h7 : l.length = 3
    · obtain ⟨a, b, c, rfl⟩ := len3 h7
      have hp := hl _ rfl
      have ha := hp a (by simp); have hb := hp b (by simp); have hc := hp c (by simp)
      cases qa : isI 0 3 a with
      | false => simp [fd_law_is_world, init, isiT, tyT, law_int_ok, ha, hb, qa, goodWd]
      | true =>
      cases qb : isI 0 3 b with
      | false => simp [fd_law_is_world, init, isiT, tyT, law_int_ok, ha, hb, qa, qb, goodWd]
      | true => simp [fd_law_is_world, init, isiT, tyT, law_int_ok, ha, hb, hc, qa, qb, goodWd]
    · have h7' : ¬ (l.length : Int) = 3 := by omega
      simp [fd_law_is_world, init, isiT, tyT, h7', goodWd_len h7]
  | fn s => simp [pl] at ht
  | box s => simp [pl] at ht
  | scr s => simp [pl] at ht
  | _ => simp [fd_law_is_world, init, isiT, tyT, goodWd]
/-- two lists, one of them empty, compared -/
theorem toD_ints : ∀ ns : List Int, toDs (ns.map T.int) = some (ns.map PyData.int)
  | [] => rfl
  | n :: ns => by simp [toDs, toD, toD_ints ns]
theorem eqT_nilL {l : List T} {ds : List PyData} (h : toDs l = some ds) : eqT (.lst l) (.lst []) = some l.isEmpty := by
  have e : ds.isEmpty = l.isEmpty := by
    cases l with
    | nil => simp [toDs] at h; subst h; rfl
    | cons a l =>
      simp only [toDs] at h
      split at h
      · split at h
        · cases h; rfl
        · cases h
      · cases h
  have sh : shal (.list ds) (.list []) = true := by simp [shal, PyData.depth, PyData.depthAll]
  simp only [eqT, toD, h, toDs, sh, if_true]
  rw [← e]
  cases ds <;> rfl
theorem eqT_nilT {l : List T} {ds : List PyData} (h : toDs l = some ds) : eqT (.tup l) (.tup []) = some l.isEmpty := by
  have e : ds.isEmpty = l.isEmpty := by
    cases l with
    | nil => simp [toDs] at h; subst h; rfl
    | cons a l =>
      simp only [toDs] at h
      split at h
      · split at h
        · cases h; rfl
        · cases h
      · cases h
  have sh : shal (.tuple ds) (.tuple []) = true := by simp [shal, PyData.depth, PyData.depthAll]
  simp only [eqT, toD, h, toDs, sh, if_true]
  rw [← e]
  cases ds <;> rfl

/-- what the draws give: data, short, and of a few words -/
def five : List Str := ["", "keep", "drop", "KEEP", "DROP", "Keep"]
def atom : T → Prop
  | .non => True
  | .bl _ => True
  | .int _ => True
  | .str s => s ∈ five
  | _ => False
def okD (N : Nat) : Nat → T → Prop
  | 0, t => atom t
  | d + 1, t => match t with
    | .tup l => l.length ≤ N ∧ ∀ x ∈ l, okD N d x
    | .lst l => l.length ≤ N ∧ ∀ x ∈ l, okD N d x
    | t => atom t
theorem okD_atom {N : Nat} {t : T} (h : atom t) : ∀ d, okD N d t
  | 0 => h
  | d + 1 => by cases t <;> first | exact h | exact h.elim
theorem okD.mono {N N' : Nat} (hN : N ≤ N') : ∀ {d d' : Nat} {t : T}, d ≤ d' → okD N d t → okD N' d' t
  | 0, d', t, _, h => okD_atom h d'
  | d + 1, 0, t, hd, h => absurd hd (by omega)
  | d + 1, d' + 1, t, hd, h => by
    cases t with
    | tup l => exact ⟨Nat.le_trans h.1 hN, fun x hx => okD.mono hN (by omega) (h.2 x hx)⟩
    | lst l => exact ⟨Nat.le_trans h.1 hN, fun x hx => okD.mono hN (by omega) (h.2 x hx)⟩
    | _ => exact h
theorem okD.pl {N d : Nat} {t : T} (h : okD N d t) : pl t = true := by
  cases d <;> cases t <;> first | rfl | exact h.elim
theorem okD.items {N d : Nat} {l : List T} (h : okD N d (.tup l)) : ∃ e, d = e + 1 ∧ l.length ≤ N ∧ ∀ x ∈ l, okD N e x := by
  cases d with
  | zero => exact h.elim
  | succ e => exact ⟨e, rfl, h⟩
theorem okD.pl2 {N d : Nat} {t : T} (h : okD N d t) : pl2 t := ⟨h.pl, fun l e x hx => by
  subst e
  obtain ⟨e, _, _, h⟩ := h.items
  exact (h x hx).pl⟩
theorem toDs_all : ∀ {l : List T}, (∀ x ∈ l, ∃ d, toD x = some d) → ∃ ds, toDs l = some ds
  | [], _ => ⟨[], rfl⟩
  | t :: l, h => by
    obtain ⟨d, e⟩ := h t (by simp)
    obtain ⟨ds, e2⟩ := toDs_all (l := l) fun x hx => h x (by simp [hx])
    exact ⟨d :: ds, by simp [toDs, e, e2]⟩
theorem okD.toD {N : Nat} : ∀ {d : Nat} {t : T}, okD N d t → ∃ e, toD t = some e
  | 0, t, h => by cases t <;> first | exact h.elim | exact ⟨_, by unfold Fw.toD; rfl⟩
  | d + 1, t, h => by
    cases t with
    | tup l =>
      obtain ⟨ds, e⟩ := toDs_all fun x hx => okD.toD (h.2 x hx)
      exact ⟨_, by unfold Fw.toD; rw [e]⟩
    | lst l =>
      obtain ⟨ds, e⟩ := toDs_all fun x hx => okD.toD (h.2 x hx)
      exact ⟨_, by unfold Fw.toD; rw [e]⟩
    | _ => first | exact h.elim | exact ⟨_, by unfold Fw.toD; rfl⟩
theorem okD.lenT {N d : Nat} {l : List T} (h : okD N d (.tup l)) : l.length ≤ N := by obtain ⟨_, _, h, _⟩ := h.items; exact h
theorem okD.toDs {N d : Nat} {l : List T} (h : okD N d (.tup l)) : ∃ ds, Fw.toDs l = some ds := by
  obtain ⟨e, _, _, h⟩ := h.items
  exact toDs_all fun x hx => (h x hx).toD
theorem co_eqE {S : Sto} {l : List T} {ds : List PyData} (h : toDs l = some ds) : cop S .Eq (.lst l) (.lst []) = some l.isEmpty := by
  simp [cop, eqT_nilL h]
theorem co_neE {S : Sto} {l : List T} {ds : List PyData} (h : toDs l = some ds) : cop S .NotEq (.lst l) (.lst []) = some (!l.isEmpty) := by
  simp [cop, eqT_nilL h]
theorem co_eqTE {S : Sto} {l : List T} {ds : List PyData} (h : toDs l = some ds) : cop S .Eq (.tup l) (.tup []) = some l.isEmpty := by
  simp [cop, eqT_nilT h]
theorem filter_nil {p : T → Bool} {l : List T} : (l.filterMap fun x => if p x = true then none else some x).isEmpty = l.all p := by
  induction l with
  | nil => rfl
  | cons a l ih => cases h : p a <;> simp [h, ih]
theorem filter_nil1 (p : T → Bool) (l : List T) : (l.filterMap fun x => if p x = true then none else some (T.int 1)).isEmpty = l.all p := by
  induction l with
  | nil => rfl
  | cons a l ih => cases h : p a <;> simp [h, ih]
theorem lik_ok (n : Nat) (a b c : Int) (t : T) (S : Sto) {N d : Nat} (h2 : okD N d t) (hN : N ≤ line) : run prg (n + 2) i_law_is_walk [mkWd a b c, t] S = some (.ok (.bl (goodWk a t)) S) := by
  rw [run_succ prg (n + 1) i_law_is_walk _ S fd_law_is_walk rfl rfl]
  obtain ⟨ht, hl⟩ := h2.pl2
  cases t with
  | tup l =>
    by_cases h1 : 100 < (l.length : Int)
    · have h2 : ¬ l.length ≤ 100 := by omega
      simp [fd_law_is_walk, init, isiT, tyT, goodWk, h1, h2]
    have h3 : l.length ≤ 100 := by omega
    have hp := hl _ rfl
    have e1 : lcL (lcT ⟨run prg (n + 1), cvals, prg.lam, prg.wf⟩ (IE.var 2) (.nm 2) (.not (.call i_law_int (.cons (.var 2) (.cons (.neg (.op false .Pow (.lit (.int 10)) (.lit (.int 32)))) (.cons (.op false .Pow (.lit (.int 10)) (.lit (.int 32))) .nil))))) [some (mkWd a b c), some (.tup l), none, none, none]) l [] S
        = some ([] ++ l.filterMap (fun x => if isI (-100000000000000000000000000000000) 100000000000000000000000000000000 x = true then none else some x), S) := by
      refine lcL_pure (fun x hx => ?_) (by simp [line]; omega)
      cases q : isI (-100000000000000000000000000000000) 100000000000000000000000000000000 x <;> simp [lcT, bindT, law_int_ok, hp x hx, q]
    rw [List.nil_append] at e1
    obtain ⟨e, _, _, hit⟩ := h2.items
    obtain ⟨ds, eds⟩ : ∃ ds, toDs (l.filterMap (fun x => if isI (-100000000000000000000000000000000) 100000000000000000000000000000000 x = true then none else some x)) = some ds := by
      refine toDs_all fun x hx => ?_
      obtain ⟨y, hy, e⟩ := List.mem_filterMap.mp hx
      split at e
      · cases e
      · cases e; exact (hit _ hy).toD
    have n1 := co_neE (S := S) eds
    rw [filter_nil] at n1
    cases q : l.all (isI (-100000000000000000000000000000000) 100000000000000000000000000000000) with
    | false =>
      rw [q] at n1
      simp [fd_law_is_walk, init, isiT, tyT, goodWk, h1, h3, wipeR, e1, q, line, n1]
    | true =>
    rw [q] at n1
    obtain ⟨ns, hns⟩ := all_int q
    have e2 : lcL (lcT ⟨run prg (n + 1), cvals, prg.lam, prg.wf⟩ (.lit (.int 1)) (.tp (.cn (.nm 3) (.cn (.nm 4) .nl))) (IE.cmp .Gt (IE.blt false .abs ((IE.op false .Sub (IE.var 3) (IE.var 4)).cons IE.nil)) (IE.ix (IE.var 0) (IE.lit (.int 0)))) [some (mkWd a b c), some (.tup l), none, none, none]) (zipT l l.tail) [] S
        = some ([] ++ (zipT l l.tail).filterMap (fun x => if stepB a x = true then none else some (.int 1)), S) := by
      refine lcL_pure (fun x hx => ?_) (by
        rw [zipT_len]
        simp only [line, List.length_nil]; omega)
      rw [hns, ← List.map_tail] at hx
      obtain ⟨i, j, rfl⟩ := zipT_int hx
      by_cases hs : (if i - j < 0 then -(i - j) else i - j) ≤ a
      · have hs' : ¬ a < (if i - j < 0 then -(i - j) else i - j) := by omega
        simp [lcT, bindT, stepB, absI, mkWd, hs, hs']
      · have hs' : a < (if i - j < 0 then -(i - j) else i - j) := by omega
        simp [lcT, bindT, stepB, absI, mkWd, hs, hs']
    rw [List.nil_append] at e2
    obtain ⟨ds2, eds2⟩ : ∃ ds, toDs ((zipT l l.tail).filterMap (fun x => if stepB a x = true then none else some (.int 1))) = some ds := by
      refine toDs_all fun x hx => ?_
      obtain ⟨y, hy, e⟩ := List.mem_filterMap.mp hx
      split at e
      · cases e
      · cases e; exact ⟨_, rfl⟩
    have n2 := co_eqE (S := S) eds2
    have n3 := filter_nil1 (stepB a) (zipT l l.tail)
    rw [n3] at n2
    simp [fd_law_is_walk, init, isiT, tyT, goodWk, h1, h3, wipeR, e1, q, line, n1, cutL_1, e2, n2]
  | fn s => simp [Fw.pl] at ht
  | box s => simp [Fw.pl] at ht
  | scr s => simp [Fw.pl] at ht
  | _ => simp [fd_law_is_walk, init, isiT, tyT, goodWk]
end Fw

namespace Fw
open PySem L2 PyProof.Rows
/-! ## drawing anything -/
@[simp] theorem pow33 : bop .Pow (.int 10) (.int 33) = some (.int 1000000000000000000000000000000000) := by simp [bop]
def things0 : List T := [.int 0, .int 1, .int (-1), .int 2, .int 3, .int 4, .bl true, .bl false, .non, .str (Str.ofString ""), .str (Str.ofString "keep"), .str (Str.ofString "drop"), .tup [], .lst [], .tup [.int 0, .int 1], .tup [.int 1, .int 1, .int 1], .tup [.int 3, .int 3, .int 2],
  .tup [.int 0, .int 20, .int 0, .int 0, .int 1, .int 1, .str (Str.ofString "keep")], .tup [.int 5, .int 5, .int 3, .int 3, .int 3, .int 3, .str (Str.ofString "drop")], .tup [.int 4, .int 0, .int 0], .int 1000000000000000000000000000000000]
theorem five_keep : (Str.ofString "keep") ∈ five ∧ (Str.ofString "drop") ∈ five ∧ (Str.ofString "") ∈ five ∧ (Str.ofString "Keep") ∈ five := by decide +kernel
theorem five_up : ∀ s ∈ five, s.length ≤ 5592405 ∧ Txt.upper s ∈ five := by decide +kernel
theorem things0_ok : ∀ t ∈ things0, okD 21 1 t := by
  have h := five_keep
  simp [things0, okD, atom, h]
def anyC : IE := match fd_law_anything.body with
  | .seq (.iff c _ _) _ => c
  | _ => .nil
def anyA : IS := match fd_law_anything.body with
  | .seq (.iff _ a _) _ => a
  | _ => .skip
def anyB : IS := match fd_law_anything.body with
  | .seq _ b => b
  | _ => .skip
theorem any_split : fd_law_anything.body = .seq (.iff anyC anyA .skip) anyB := rfl
theorem things_leaf (n k : Nat) (S : Sto) (d : T) (h : Tn S k) : ∃ t S', evS ⟨run prg (n + 2), cvals, prg.lam, prg.wf⟩ anyA [some (.box k), some d, none, none, none] S = some (.rt t S') ∧ okD 21 1 t ∧ Tw k S S' := by
  obtain ⟨t, S', e, hm, w⟩ := any_ok n k S things0 h (by simp [things0]) (by simp [things0])
  refine ⟨t, S', ?_, things0_ok t hm, w⟩
  simp only [things0] at e
  simp [anyA, fd_law_anything, bindT, line, bq_addL, e]
theorem anything_ok : ∀ (d n k : Nat) (S : Sto), Tn S k → ∃ t S', run prg (n + d + 3) i_law_anything [.box k, .int d] S = some (.ok t S') ∧ okD 21 (d + 1) t ∧ Tw k S S'
  | 0, n, k, S, h => by
    obtain ⟨t, S', e, h1, h2⟩ := things_leaf n k S (.int 0) h
    refine ⟨t, S', ?_, h1, h2⟩
    rw [run_succ prg (n + 2) i_law_anything _ S fd_law_anything rfl rfl, any_split]
    simp [init, fd_law_anything, anyC] 
    simp [e, fin1_le, h2.len]
  | d + 1, n, k, S, h => by
    have hd : ¬ ((d : Int) + 1 = 0) := by omega
    rw [show n + (d + 1) + 3 = (n + d + 3) + 1 by omega, run_succ prg (n + d + 3) i_law_anything _ S fd_law_anything rfl rfl, any_split]
    obtain ⟨r, S1, e1, r0, r1, w1⟩ := scoop_ok (n + d + 2) k S 8 h (by decide) (by decide)
    by_cases h5 : r < 5
    · obtain ⟨t, S', e, h1, h2⟩ := things_leaf (n + d + 1) k S1 (.int (d + 1)) w1.tn
      refine ⟨t, S', ?_, h1.mono (by omega) (by omega), w1.trans h2⟩
      simp [init, fd_law_anything, anyC, hd, e1, h5]
      simp [e, fin1_le, (w1.trans h2).len]
    · obtain ⟨q, S2, e2, q0, q1, w2⟩ := scoop_ok (n + d + 2) k S1 4 w1.tn (by decide) (by decide)
      have ql : (rngT 0 q.toNat).length ≤ 3 := by simp; omega
      have key := lcL_inv (g := lcT ⟨run prg (n + d + 3), cvals, prg.lam, prg.wf⟩ (.call i_law_anything (.cons (.var 0) (.cons (.op false .Sub (.var 1) (.lit (.int 1))) .nil))) (.nm 4) (.lit (.bl true)) [some (.box k), some (.int (d + 1)), none, none, none]) (fun S' => Tw k S S') (okD 21 (d + 1)) (l := rngT 0 q.toNat) (acc := [])
        (fun x hx S' hS => by
          obtain ⟨t, S3, e3, o3, w3⟩ := anything_ok d n k S' hS.tn
          refine ⟨some t, S3, ?_, hS.trans w3, fun y hy => by cases hy; exact o3⟩
          simp [lcT, bindT, e3]) (by simp [line]; omega) (by simp) (S := S2) (w1.trans w2)
      obtain ⟨ys, S4, e4, w4, hy, hyl⟩ := key
      obtain ⟨z, S5, e5, z0, z1, w5⟩ := scoop_ok (n + d + 2) k S4 3 w4.tn (by decide) (by decide)
      have hl : ys.length ≤ 21 := by simp at hyl ql; omega
      have ok62 : okR q = true := by simp [okR]; omega
      by_cases hz : z = 0
      · subst hz
        refine ⟨.lst ys, S5, ?_, ⟨hl, hy⟩, w4.trans w5⟩
        simp [init, fd_law_anything, anyC, hd, e1, h5, anyB, e2, ok62, wipeR, e4, bindT, e5, fin1_le, (w4.trans w5).len]
      · refine ⟨.tup ys, S5, ?_, ⟨hl, hy⟩, w4.trans w5⟩
        simp [init, fd_law_anything, anyC, hd, e1, h5, anyB, e2, ok62, wipeR, e4, bindT, e5, hz, fin1_le, (w4.trans w5).len]
end Fw

namespace Fw
open PySem L2 PyProof.Rows
/-! ## watchers, worlds, trips drawn -/
def mkW (a b c d e f : Int) (g : Str) : T := .tup [.int a, .int b, .int c, .int d, .int e, .int f, .str g]
def WOk (w : Int) (a b c d e f : Int) (g : Str) : Prop := -3 ≤ a ∧ a ≤ 7 ∧ a ≤ b ∧ b ≤ a + w ∧ 0 ≤ c ∧ c ≤ 3 ∧ 0 ≤ d ∧ d ≤ 3 ∧ 1 ≤ e ∧ e ≤ 3 ∧ 1 ≤ f ∧ f ≤ 3 ∧ (g = Str.ofString "keep" ∨ g = Str.ofString "drop")
theorem any_int (n k : Nat) (S : Sto) (l : List Int) (h : Tn S k) (hl : l ≠ []) (hl2 : l.length < 1073741824) :
    ∃ t S', run prg (n + 2) i_law_any [.box k, .lst (l.map T.int)] S = some (.ok (.int t) S') ∧ t ∈ l ∧ Tw k S S' := by
  obtain ⟨t, S', e, hm, w⟩ := any_ok n k S (l.map T.int) h (by simpa using hl) (by simpa using hl2)
  obtain ⟨i, hi, rfl⟩ := List.mem_map.mp hm
  exact ⟨i, S', e, hi, w⟩
theorem law_watcher_ok (n k : Nat) (S : Sto) (w : Int) (h : Tn S k) (hw : 0 ≤ w) (hw2 : w < 1000000) :
    ∃ a b c d e f g S', run prg (n + 3) i_law_watcher [.box k, .int w] S = some (.ok (mkW a b c d e f g) S') ∧ WOk w a b c d e f g ∧ Tw k S S' := by
  obtain ⟨a, S1, e1, m1, w1⟩ := any_int n k S [0, 0, -3, 7] h (by simp) (by simp)
  obtain ⟨b, S2, e2, b0, b1, w2⟩ := scoop_ok (n + 1) k S1 (w + 1) w1.tn (by omega) (by omega)
  obtain ⟨e, S3, e3, m3, w3⟩ := any_int n k S2 [0, 0, 1, 2] w2.tn (by simp) (by simp)
  obtain ⟨f, S4, e4, m4, w4⟩ := any_int n k S3 [0, 0, 1, 2] w3.tn (by simp) (by simp)
  obtain ⟨c, S5, e5, m5, w5⟩ := any_int n k S4 [0, 0, 1, 2, 3] w4.tn (by simp) (by simp)
  obtain ⟨d, S6, e6, m6, w6⟩ := any_int n k S5 [0, 0, 1, 2, 3] w5.tn (by simp) (by simp)
  obtain ⟨g, S7, e7, m7, w7⟩ := any_ok n k S6 [.str (Str.ofString "keep"), .str (Str.ofString "drop")] w6.tn (by simp) (by simp)
  have wt := ((((((w1.trans w2).trans w3).trans w4).trans w5).trans w6).trans w7)
  simp only [List.mem_cons, List.not_mem_nil, or_false] at m1 m3 m4 m5 m6 m7
  obtain ⟨s, rfl, hs⟩ : ∃ s, g = .str s ∧ (s = Str.ofString "keep" ∨ s = Str.ofString "drop") := by
    rcases m7 with rfl | rfl
    · exact ⟨_, rfl, .inl rfl⟩
    · exact ⟨_, rfl, .inr rfl⟩
  refine ⟨a, a + b, c, d, 1 + e, 1 + f, s, S7, ?_, ⟨by omega, by omega, by omega, by omega, by omega, by omega, by omega, by omega, by omega, by omega, by omega, by omega, hs⟩, wt⟩
  simp only [List.map_cons, List.map_nil] at e1 e3 e4 e5 e6
  rw [run_succ prg (n + 2) i_law_watcher _ S fd_law_watcher rfl rfl]
  simp [fd_law_watcher, init, e1, bindT, e2, e3, e4, e5, e6, e7, line, bq_addT, mkW, fin1_le, wt.len]
theorem law_world_ok (n k : Nat) (S : Sto) (h : Tn S k) :
    ∃ a b c S', run prg (n + 3) i_law_world [.box k] S = some (.ok (mkWd a b c) S') ∧ WdOk a b c ∧ a ≤ 2 ∧ Tw k S S' := by
  obtain ⟨a, S1, e1, m1, w1⟩ := any_int n k S [0, 1, 1, 2] h (by simp) (by simp)
  obtain ⟨b, S2, e2, m2, w2⟩ := any_int n k S1 [0, 0, 1, 2] w1.tn (by simp) (by simp)
  obtain ⟨c, S3, e3, m3, w3⟩ := any_int n k S2 [0, 0, 1, 2] w2.tn (by simp) (by simp)
  have wt := (w1.trans w2).trans w3
  simp only [List.mem_cons, List.not_mem_nil, or_false] at m1 m2 m3
  refine ⟨a, b, c, S3, ?_, ⟨by omega, by omega, by omega, by omega, by omega, by omega⟩, by omega, wt⟩
  simp only [List.map_cons, List.map_nil] at e1 e2 e3
  rw [run_succ prg (n + 2) i_law_world _ S fd_law_world rfl rfl]
  simp [fd_law_world, init, e1, e2, e3, line, mkWd, fin1_le, wt.len]
/-- a trip: its walk and its looks, side by side -/
def tripB : IS := match fd_law_trip.body with
  | .seq _ (.seq _ (.seq (.for_ _ _ b) _)) => b
  | _ => .skip
theorem trip_split : fd_law_trip.body = .seq (.par3 6 7 8 (.cons (.lit (.int 0)) (.cons (.lst true .nil) (.cons (.lst true .nil) .nil)))) (.seq (.asg (.nm 4) (.call i_law_any (.cons (.var 0) (.cons (.lst false (.cons (.ix (.var 1) (.lit (.int 0))) (.cons (.op false .Add (.ix (.var 1) (.lit (.int 1))) (.lit (.int 1))) (.cons (.op false .Sub (.ix (.var 1) (.lit (.int 0))) (.lit (.int 2))) .nil)))) .nil)))) (.seq (.for_ (.nm 5) (.rg1 (.var 3)) tripB) (.seq (.ret (.tup (.cons (.blt false .tuple (.cons (.var 7) .nil)) (.cons (.blt false .tuple (.cons (.var 8) .nil)) .nil)))) .skip))) := rfl
/-- what a trip's looks and walk are, from its start on, newest last -/
def lookT : Option Int → T
  | some i => .int i
  | none => .non
/-- the way of one step: walk, looks, lost -/
inductive TripI (r b l : Int) : List Int → List (Option Int) → Int → Int → Prop
  | nil (h : Int) : TripI r b l [] [] h 0
  | lose {ws ls h s} (h' : Int) : TripI r b l ws ls h s → (ws ≠ [] → h - r ≤ h' ∧ h' ≤ h + r) → s < l → TripI r b l (ws ++ [h']) (ls ++ [none]) h' (s + 1)
  | see {ws ls h s} (h' k : Int) : TripI r b l ws ls h s → (ws ≠ [] → h - r ≤ h' ∧ h' ≤ h + r) → h' - b ≤ k → k ≤ h' + b → TripI r b l (ws ++ [h']) (ls ++ [some k]) h' 0
theorem TripI.len {r b l : Int} {ws : List Int} {ls : List (Option Int)} {h s : Int} (t : TripI r b l ws ls h s) : ws.length = ls.length := by
  induction t <;> simp_all
theorem ints_no : ∀ l : List Int, noBxL 0 (l.map T.int) = true
  | [] => rfl
  | a :: l => by simp [noBxL, noBx, ints_no l]
theorem looks_no : ∀ l : List (Option Int), noBxL 0 (l.map lookT) = true
  | [] => rfl
  | a :: l => by cases a <;> simp [noBxL, noBx, lookT, looks_no l]
theorem mkWd_at (S : Sto) (a b c : Int) : ixT S (mkWd a b c) (.int 0) = some (.int a) ∧ ixT S (mkWd a b c) (.int 1) = some (.int b) ∧ ixT S (mkWd a b c) (.int 2) = some (.int c) := by
  simp [mkWd]
theorem bo_mul2 (j : Int) : bop .Mult (.int 2) (.int j) = some (.int (2 * j)) := bo_mulL (by decide)
def TripS (k : Nat) (S : Sto) (W : T) (r b l m : Int) (rest : List T) (ρ : Rho) (S' : Sto) : Prop :=
  ∃ ws ls h s S1 tu lk, ρ = [some (.box k), some W, some (mkWd r b l), some (.int m), some (.int h), tu, some (.int s), some (.box S.length), some (.box (S.length + 1)), lk] ∧
    S' = S1 ++ [.lst (ws.map T.int), .lst (ls.map lookT)] ∧ Tw k S S1 ∧ (∃ h0, TripI r b l ws ls h0 s ∧ (ws ≠ [] → h0 = h)) ∧ ws.length + rest.length = m.toNat
theorem trip_turn (n k : Nat) (S : Sto) (W : T) (r b l m : Int) (hwd : WdOk r b l) (hm2 : m < 1000000) (x : T) (rest : List T) (ρ : Rho) (S' : Sto) (h : TripS k S W r b l m (x :: rest) ρ S') :
    ∃ ρ' S'', frT ⟨run prg (n + 2), cvals, prg.lam, prg.wf⟩ (.nm 5) tripB x ρ S' = some (.nx ρ' S'') ∧ TripS k S W r b l m rest ρ' S'' := by
  obtain ⟨ws, ls, h, s, S1, tu, lk, rfl, rfl, w, ⟨h0, ti, hh⟩, hlen⟩ := h
  obtain ⟨q1, q2, q3, q4, q5, q6⟩ := hwd
  have hL : S.length = S1.length := w.len.symm
  have hk : k < S1.length := w.len ▸ w.1
  obtain ⟨y, S2, e1, y0, y1, w1⟩ := scoop_ok (n + 1) k (S1 ++ [.lst (ws.map T.int), .lst (ls.map lookT)]) (2 * r + 1) (w.tn.app _) (by omega) (by omega)
  obtain ⟨S3, rfl, w3⟩ := w1.app hk
  have hL3 : S1.length = S3.length := w3.len.symm
  have hk3 : k < S3.length := by omega
  have m0 : ∀ S, _ := mkWd_at (a := r) (b := b) (c := l)
  simp only [List.length_cons] at hlen
  have hh' : ws ≠ [] → h0 - r ≤ h + y - r ∧ h + y - r ≤ h0 + r := fun z => by rw [hh z]; constructor <;> omega
  have hln : (ws.map T.int).length < 16777216 := by rw [List.length_map]; omega
  have hln2 : (ls.map lookT).length < 16777216 := by rw [List.length_map, ← ti.len]; omega
  -- the two appends at the end
  have fin : ∀ (S4 : Sto) (lk : Option Int) (s' : Int), Tw k S3 S4 → TripI r b l (ws ++ [h + y - r]) (ls ++ [lk]) (h + y - r) s' →
      ∃ ρ' S'', evS ⟨run prg (n + 2), cvals, prg.lam, prg.wf⟩ (.seq (.app (.var 7) (.var 4)) (.seq (.app (.var 8) (.var 9)) .skip)) [some (.box k), some W, some (mkWd r b l), some (.int m), some (.int (h + y - r)), some x, some (.int s'), some (.box S.length), some (.box (S.length + 1)), some (lookT lk)] (S4 ++ [.lst (ws.map T.int), .lst (ls.map lookT)]) = some (.nx ρ' S'') ∧ TripS k S W r b l m rest ρ' S'' := by
    intro S4 lk s' w4 ti'
    have hL4 : S.length = S4.length := by rw [hL, hL3, w4.len]
    refine ⟨[some (.box k), some W, some (mkWd r b l), some (.int m), some (.int (h + y - r)), some x, some (.int s'), some (.box S.length), some (.box (S.length + 1)), some (lookT lk)], S4 ++ [.lst ((ws ++ [h + y - r]).map T.int), .lst ((ls ++ [lk]).map lookT)], ?_, ws ++ [h + y - r], ls ++ [lk], h + y - r, s', S4, some x, some (lookT lk), rfl, rfl, (w.trans w3).trans w4, ⟨_, ti', fun _ => rfl⟩, by simp; omega⟩
    rw [hL4]
    simp at hln hln2
    simp [isLst, wApp, line, hln, hln2]
  by_cases hs : s < l
  · obtain ⟨z, S5, e5, z0, z1, w5⟩ := scoop_ok (n + 1) k (S3 ++ [.lst (ws.map T.int), .lst (ls.map lookT)]) 3 (w3.tn.app _) (by omega) (by omega)
    obtain ⟨S6, rfl, w6⟩ := w5.app hk3
    have hk6 : k < S6.length := by rw [w6.len]; exact hk3
    by_cases hz : z = 0
    · subst hz
      obtain ⟨ρ', S'', e, i⟩ := fin S6 none (s + 1) w6 (.lose _ ti hh' hs)
      refine ⟨ρ', S'', ?_, i⟩
      rw [← e]
      simp [frT, tripB, fd_law_trip, bindT, m0, bo_mul2, e1, hs, e5, lookT]
    · obtain ⟨v, S7, e7, v0, v1, w7⟩ := scoop_ok (n + 1) k (S6 ++ [.lst (ws.map T.int), .lst (ls.map lookT)]) (2 * b + 1) (w6.tn.app _) (by omega) (by omega)
      obtain ⟨S8, rfl, w8⟩ := w7.app hk6
      obtain ⟨ρ', S'', e, i⟩ := fin S8 (some (h + y - r + v - b)) 0 (w6.trans w8) (.see _ _ ti hh' (by omega) (by omega))
      refine ⟨ρ', S'', ?_, i⟩
      rw [← e]
      simp [frT, tripB, fd_law_trip, bindT, m0, bo_mul2, e1, hs, e5, lookT, hz, e7]
  · obtain ⟨v, S7, e7, v0, v1, w7⟩ := scoop_ok (n + 1) k (S3 ++ [.lst (ws.map T.int), .lst (ls.map lookT)]) (2 * b + 1) (w3.tn.app _) (by omega) (by omega)
    obtain ⟨S8, rfl, w8⟩ := w7.app hk3
    obtain ⟨ρ', S'', e, i⟩ := fin S8 (some (h + y - r + v - b)) 0 w8 (.see _ _ ti hh' (by omega) (by omega))
    refine ⟨ρ', S'', ?_, i⟩
    rw [← e]
    simp [frT, tripB, fd_law_trip, bindT, m0, bo_mul2, e1, hs, lookT, e7]
theorem law_trip_ok (n k : Nat) (S : Sto) (W : T) (lo hi r b l m : Int) (t : List T) (hW : W = .tup (.int lo :: .int hi :: t)) (hwd : WdOk r b l) (h : Tn S k) (hc : Cl S) (hm : 0 ≤ m) (hm2 : m < 1000000) :
    ∃ ws ls S' x y, run prg (n + 3) i_law_trip [.box k, W, mkWd r b l, .int m] S = some (.ok (.tup [.tup (ws.map T.int), .tup (ls.map lookT)]) S') ∧ ws.length = m.toNat ∧ TripI r b l ws ls x y ∧ Tw k S S' := by
  have hk := h.lt
  obtain ⟨a, S1, e1, _, w1⟩ := any_int n k (S ++ [.lst [], .lst []]) [lo, hi + 1, lo - 2] (h.app _) (by simp) (by simp)
  obtain ⟨S2, rfl, w2⟩ := w1.app hk
  have hL2 : S.length = S2.length := w2.len.symm
  have key := forL_invL (g := frT ⟨run prg (n + 2), cvals, prg.lam, prg.wf⟩ (.nm 5) tripB) (TripS k S W r b l m) (l := rngT 0 m.toNat) (fun x rest ρ S' hi => by
    obtain ⟨ρ', S'', e, i⟩ := trip_turn n k S W r b l m hwd hm2 x rest ρ S' hi
    exact ⟨ρ', S'', .inl e, i⟩)
    (ρ := [some (.box k), some W, some (mkWd r b l), some (.int m), some (.int a), none, some (.int 0), some (.box S.length), some (.box (S.length + 1)), none]) (S := S2 ++ [.lst [], .lst []])
    ⟨[], [], a, 0, S2, _, _, rfl, rfl, w2, ⟨_, .nil a, fun z => absurd rfl z⟩, by simp⟩
  obtain ⟨ρ', S', e, ws, ls, h', s, S3, tu, lk, rfl, rfl, w3, ⟨h0, ti, _⟩, hlen⟩ := key
  have hL3 : S.length = S3.length := w3.len.symm
  have ok : okR m = true := by simp [okR]; omega
  simp only [List.map_cons, List.map_nil] at e1
  refine ⟨ws, ls, S3, h0, s, ?_, by simp only [List.length_nil, Nat.add_zero] at hlen; exact hlen, ti, w3⟩
  rw [run_succ prg (n + 2) i_law_trip _ S fd_law_trip rfl rfl, trip_split]
  have t1 : bltT (S3 ++ [.lst (ws.map T.int), .lst (ls.map lookT)]) .tuple [.box S.length] = some (.tup (ws.map T.int)) := bl_tupB (by rw [hL3, List.getElem?_append_right (Nat.le_refl _)]; simp)
  have t2 : bltT (S3 ++ [.lst (ws.map T.int), .lst (ls.map lookT)]) .tuple [.box (S.length + 1)] = some (.tup (ls.map lookT)) := bl_tupB (by rw [hL3, List.getElem?_append_right (by omega)]; simp)
  subst hW
  simp [init, fd_law_trip, line, bindT, e1, ok, e, t1, t2]
  refine fin1_cut hL3.symm ?_ (hc.tw w3)
  simp [noBx, noBxL, ints_no, looks_no]
end Fw

namespace Fw
open PySem L2 PyProof.Rows
/-! ## bending -/
def bentC : IE := match fd_law_bent.body with
  | .seq (.iff c _ _) _ => c
  | _ => .nil
def bentA : IS := match fd_law_bent.body with
  | .seq (.iff _ a _) _ => a
  | _ => .skip
def bentB : IS := match fd_law_bent.body with
  | .seq _ b => b
  | _ => .skip
theorem bent_split : fd_law_bent.body = .seq (.iff bentC bentA .skip) bentB := rfl
theorem isi_str (S : Sto) (t : T) : pl t = true → isiT S t "str" = some (match t with | .str _ => true | _ => false) := by
  cases t <;> simp [pl, isiT, tyT]
theorem isi_int (S : Sto) (t : T) : pl t = true → isiT S t "int" = some (match t with | .int _ => true | .bl _ => true | _ => false) := by
  cases t <;> simp [pl, isiT, tyT]
theorem bent_leaf (n k : Nat) (S : Sto) (t : T) (h : Tn S k) {N d : Nat} (ht : okD N d t) (hN : 21 ≤ N) : ∃ t' S', evS ⟨run prg (n + 4), cvals, prg.lam, prg.wf⟩ bentA [some (.box k), some t, none, none, none] S = some (.rt t' S') ∧ okD (N + 1) (d + 2) t' ∧ Tw k S S' := by
  obtain ⟨x, S1, e1, o1, w1⟩ := anything_ok 1 n k S h
  have o1' : okD (N + 1) (d + 2) x := o1.mono (by omega) (by omega)
  have o2' : okD (N + 1) (d + 2) (.lst [t]) := by
    refine ⟨by simp, fun y hy => ?_⟩
    simp at hy; subst hy; exact ht.mono (by omega) (by omega)
  have at_ : ∀ y, atom y → okD (N + 1) (d + 2) y := fun y hy => okD_atom hy _
  have go : ∀ things : List T, things ≠ [] → things.length ≤ 20 → (∀ y ∈ things, okD (N + 1) (d + 2) y) → ∃ t' S', run prg (n + 4) i_law_any [.box k, .lst things] S1 = some (.ok t' S') ∧ okD (N + 1) (d + 2) t' ∧ Tw k S S' := by
    intro things hne hl hy
    obtain ⟨y, S', e, hm, w⟩ := any_ok (n + 2) k S1 things w1.tn hne (by omega)
    exact ⟨y, S', e, hy y hm, w1.trans w⟩
  have e1' : run prg (n + 4) i_law_anything [.box k, .int 1] S = some (.ok x S1) := e1
  have hp := ht.pl
  cases t with
  | str s =>
    have hs : s ∈ five := by cases d <;> exact ht
    obtain ⟨hl, hu⟩ := five_up s hs
    have hf := five_keep
    have hup : mt0T .upper (.str s) = some (.str (Txt.upper s)) := by simp [mt0T, hl]
    obtain ⟨t', S', e, o, w⟩ := go [x, .lst [.str s], .str (Str.ofString "keep"), .str (Str.ofString "drop"), .str (Txt.upper s)] (by simp) (by simp) (by
      intro y hy
      simp only [List.mem_cons, List.not_mem_nil, or_false] at hy
      rcases hy with rfl | rfl | rfl | rfl | rfl
      · exact o1'
      · exact o2'
      · exact at_ _ hf.1
      · exact at_ _ hf.2.1
      · exact at_ _ hu)
    refine ⟨t', S', ?_, o, w⟩
    simp [bentA, fd_law_bent, e1', line, bindT, isiT, tyT, hup, bq_addL, e]
  | int i =>
    obtain ⟨t', S', e, o, w⟩ := go [x, .lst [.int i], .int (i + 1), .int (i - 1), .int (-i), .bl (!(i != 0))] (by simp) (by simp) (by
      intro y hy
      simp only [List.mem_cons, List.not_mem_nil, or_false] at hy
      rcases hy with rfl | rfl | rfl | rfl | rfl | rfl
      · exact o1'
      · exact o2'
      · exact at_ _ trivial
      · exact at_ _ trivial
      · exact at_ _ trivial
      · exact at_ _ trivial)
    refine ⟨t', S', ?_, o, w⟩
    simp [bentA, fd_law_bent, e1', line, bindT, isiT, tyT, bq_addL, e]
  | bl p =>
    obtain ⟨t', S', e, o, w⟩ := go [x, .lst [.bl p], .int ((if p = true then (1 : Int) else 0) + 1), .int ((if p = true then (1 : Int) else 0) - 1), .int (-(if p = true then (1 : Int) else 0)), .bl (!p)] (by simp) (by simp) (by
      intro y hy
      simp only [List.mem_cons, List.not_mem_nil, or_false] at hy
      rcases hy with rfl | rfl | rfl | rfl | rfl | rfl
      · exact o1'
      · exact o2'
      · exact at_ _ trivial
      · exact at_ _ trivial
      · exact at_ _ trivial
      · exact at_ _ trivial)
    refine ⟨t', S', ?_, o, w⟩
    cases p <;> simp at e <;> simp [bentA, fd_law_bent, e1', line, bindT, isiT, tyT, bq_addL, bop, e]
  | fn s => simp [pl] at hp
  | box s => simp [pl] at hp
  | scr s => simp [pl] at hp
  | non =>
    obtain ⟨t', S', e, o, w⟩ := go [x, .lst [.non]] (by simp) (by simp) (by
      intro y hy
      simp only [List.mem_cons, List.not_mem_nil, or_false] at hy
      rcases hy with rfl | rfl
      · exact o1'
      · exact o2')
    refine ⟨t', S', ?_, o, w⟩
    simp [bentA, fd_law_bent, e1', line, bindT, isiT, tyT, e]
  | tup l =>
    obtain ⟨t', S', e, o, w⟩ := go [x, .lst [.tup l]] (by simp) (by simp) (by
      intro y hy
      simp only [List.mem_cons, List.not_mem_nil, or_false] at hy
      rcases hy with rfl | rfl
      · exact o1'
      · exact o2')
    refine ⟨t', S', ?_, o, w⟩
    simp [bentA, fd_law_bent, e1', line, bindT, isiT, tyT, e]
  | lst l =>
    obtain ⟨t', S', e, o, w⟩ := go [x, .lst [.lst l]] (by simp) (by simp) (by
      intro y hy
      simp only [List.mem_cons, List.not_mem_nil, or_false] at hy
      rcases hy with rfl | rfl
      · exact o1'
      · exact o2')
    refine ⟨t', S', ?_, o, w⟩
    simp [bentA, fd_law_bent, e1', line, bindT, isiT, tyT, e]
theorem cutL_to {l : List T} {a : Int} (h0 : 0 ≤ a) : cutL l none (some a) = l.take a.toNat := by
  have : ¬ a < 0 := by omega
  simp [cutL, HT.sIx, this, List.take_eq_take_iff]
theorem cutL_from {l : List T} {a : Int} (h0 : 0 ≤ a) : cutL l (some a) none = l.drop a.toNat := by
  have : ¬ a < 0 := by omega
  simp only [cutL, HT.sIx, this, if_false]
  rw [List.take_of_length_le (by simp)]
  by_cases h : a.toNat ≤ l.length
  · rw [Nat.min_eq_left h]
  · rw [Nat.min_eq_right (by omega), List.drop_of_length_le (Nat.le_refl _), List.drop_of_length_le (by omega)]
theorem cutL_mid {l : List T} {a b : Int} (h0 : 0 ≤ a) (h1 : a ≤ b) (h2 : b ≤ l.length) : cutL l (some a) (some b) = (l.drop a.toNat).take (b.toNat - a.toNat) := by
  have : ¬ a < 0 := by omega
  have : ¬ b < 0 := by omega
  simp only [cutL, HT.sIx, *, if_false]
  rw [Nat.min_eq_left (by omega), Nat.min_eq_left (by omega)]
theorem bent_ok : ∀ (d n k : Nat) (S : Sto) (t : T) (N : Nat), okD N d t → 21 ≤ N → N ≤ 1000 → Tn S k → ∃ t' S', run prg (n + d + 5) i_law_bent [.box k, t] S = some (.ok t' S') ∧ okD (N + 1) (d + 2) t' ∧ Tw k S S' := by
  intro d
  induction d with
  | zero =>
    intro n k S t N ht hN hN2 h
    obtain ⟨t', S', e, o, w⟩ := bent_leaf n k S t h ht hN
    refine ⟨t', S', ?_, o, w⟩
    rw [run_succ prg (n + 0 + 4) i_law_bent _ S fd_law_bent rfl rfl, bent_split]
    cases t <;> first
      | exact ht.elim
      | (simp [init, fd_law_bent, bentC, isiT, tyT]; simp [e, fin1_le, w.len])
  | succ d ih =>
    intro n k S t N ht hN hN2 h
    rw [run_succ prg (n + (d + 1) + 4) i_law_bent _ S fd_law_bent rfl rfl, bent_split]
    by_cases htup : ∃ l, t = .tup l
    · obtain ⟨l, rfl⟩ := htup
      obtain ⟨ds, eds⟩ := ht.toDs
      have ceq : ∀ S, cop S .Eq (.tup l) (.tup []) = some l.isEmpty := fun S => co_eqTE eds
      cases hle : l.isEmpty with
      | true =>
        obtain ⟨t', S', e, o, w⟩ := bent_leaf (n + (d + 1)) k S (.tup l) h ht hN
        refine ⟨t', S', ?_, o, w⟩
        simp [init, fd_law_bent, bentC, isiT, tyT, ceq, hle, line]
        simp [e, fin1_le, w.len]
      | false =>
        have hne : l ≠ [] := by intro z; simp [z] at hle
        have hlp : 0 < l.length := List.length_pos_iff.mpr hne
        obtain ⟨q, S1, e1, q0, q1, w1⟩ := scoop_ok (n + (d + 1) + 3) k S 6 h (by decide) (by decide)
        by_cases hq : q = 0
        · subst hq
          obtain ⟨t', S', e, o, w⟩ := bent_leaf (n + (d + 1)) k S1 (.tup l) w1.tn ht hN
          refine ⟨t', S', ?_, o, w1.trans w⟩
          simp [init, fd_law_bent, bentC, isiT, tyT, ceq, hle, line, e1]
          simp [e, fin1_le, (w1.trans w).len]
        · have hl := ht.1
          have hit := ht.2
          obtain ⟨a, S2, e2, a0, a1, w2⟩ := scoop_ok (n + (d + 1) + 3) k S1 l.length w1.tn (by omega) (by omega)
          obtain ⟨c, S3, e3, c0, c1, w3⟩ := scoop_ok (n + (d + 1) + 3) k S2 8 w2.tn (by decide) (by decide)
          have w13 := (w1.trans w2).trans w3
          have f3 : ∀ t, fin1 S.length t S3 = .ok t S3 := fun t => fin1_le (by rw [w13.len]; exact Nat.le_refl _)
          have ok_up : ∀ x, okD N d x → okD (N + 1) (d + 2) x := fun x hx => hx.mono (by omega) (by omega)
          have hm : ∀ {k : List T} {x : T}, (∀ y ∈ k, y ∈ l) → x ∈ k → okD (N + 1) (d + 2) x := fun hk hx => ok_up _ (hit _ (hk _ hx))
          have s1 : ∀ y ∈ l.take a.toNat, y ∈ l := fun y hy => List.mem_of_mem_take hy
          have s2 : ∀ y ∈ l.drop (a + 1).toNat, y ∈ l := fun y hy => List.mem_of_mem_drop hy
          have t1 : (l.take a.toNat).length = a.toNat := by simp; omega
          have t2 : (l.drop (a + 1).toNat).length = l.length - (a.toNat + 1) := by simp; omega
          by_cases hc0 : c = 0
          · subst hc0
            refine ⟨.tup (l.take a.toNat ++ l.drop (a + 1).toNat), S3, ?_, ⟨by rw [List.length_append, t1, t2]; omega, fun x hx => ?_⟩, w13⟩
            · have hb : (l.take a.toNat).length + (l.drop (a + 1).toNat).length ≤ 16777216 := by rw [t1, t2]; omega
              simp [init, fd_law_bent, bentC, isiT, tyT, ceq, hle, line, e1, hq, bentB, e2, e3, cutL_to a0, cutL_from (show 0 ≤ a + 1 by omega), bo_addT hb, f3]
            · rcases List.mem_append.mp hx with hx | hx
              · exact hm s1 hx
              · exact hm s2 hx
          by_cases hc1 : c = 1
          · subst hc1
            have hone : ((l.drop a.toNat).take ((a + 1).toNat - a.toNat)).length = 1 := by simp; omega
            have hsub : ∀ y ∈ (l.drop a.toNat).take ((a + 1).toNat - a.toNat), y ∈ l := fun y hy => List.mem_of_mem_drop (List.mem_of_mem_take hy)
            obtain ⟨z, hz⟩ := List.length_eq_one_iff.mp hone
            have hm1 : bop .Mult (.tup [z]) (.int 2) = some (.tup [z, z]) := by simp [bop]
            refine ⟨.tup (l.take a.toNat ++ [z, z] ++ l.drop (a + 1).toNat), S3, ?_, ⟨by rw [List.length_append, List.length_append, t1, t2]; simp; omega, fun x hx => ?_⟩, w13⟩
            · have hb : (l.take a.toNat).length + [z, z].length ≤ 16777216 := by rw [t1]; simp; omega
              have hb2 : (l.take a.toNat ++ [z, z]).length + (l.drop (a + 1).toNat).length ≤ 16777216 := by rw [List.length_append, t1, t2]; simp; omega
              simp only [List.append_assoc] at *
              simp [init, fd_law_bent, bentC, isiT, tyT, ceq, hle, line, e1, hq, bentB, e2, e3, cutL_to a0, cutL_from (show 0 ≤ a + 1 by omega), cutL_mid a0 (show a ≤ a + 1 by omega) (show a + 1 ≤ (l.length : Int) by omega), hz, hm1, bo_addT hb, bo_addT hb2, f3]
            · have hz' : z ∈ l := hsub z (by rw [hz]; simp)
              rcases List.mem_append.mp hx with hx | hx
              · rcases List.mem_append.mp hx with hx | hx
                · exact hm s1 hx
                · simp at hx; subst hx; exact ok_up _ (hit _ hz')
              · exact hm s2 hx
          by_cases hc2 : c = 2
          · subst hc2
            refine ⟨.tup l.reverse, S3, ?_, ⟨by simp; omega, fun x hx => ok_up _ (hit _ (List.mem_reverse.mp hx))⟩, w13⟩
            simp [init, fd_law_bent, bentC, isiT, tyT, ceq, hle, line, e1, hq, bentB, e2, e3, f3]
          by_cases hc3 : c = 3
          · subst hc3
            refine ⟨.lst l, S3, ?_, ⟨by omega, fun x hx => ok_up _ (hit _ hx)⟩, w13⟩
            simp [init, fd_law_bent, bentC, isiT, tyT, ceq, hle, line, e1, hq, bentB, e2, e3, f3]
          obtain ⟨z, ez, hz⟩ := atI_nat (l := l) a0 a1
          obtain ⟨z', S4, e4, o4, w4⟩ := ih n k S3 z N (hit z hz) hN hN2 w3.tn
          have w14 := w13.trans w4
          have e4' : run prg (n + (d + 1) + 4) i_law_bent [.box k, z] S3 = some (.ok z' S4) := by
            rw [← e4]; congr 1
          refine ⟨.tup (l.take a.toNat ++ [z'] ++ l.drop (a + 1).toNat), S4, ?_, ⟨by rw [List.length_append, List.length_append, t1, t2]; simp; omega, fun x hx => ?_⟩, w14⟩
          · have hb : (l.take a.toNat).length + [z'].length ≤ 16777216 := by rw [t1]; simp; omega
            have hb2 : (l.take a.toNat ++ [z']).length + (l.drop (a + 1).toNat).length ≤ 16777216 := by rw [List.length_append, t1, t2]; simp; omega
            simp [init, fd_law_bent, bentC, isiT, tyT, ceq, hle, line, e1, hq, bentB, e2, e3, hc0, hc1, hc2, hc3, cutL_to a0, cutL_from (show 0 ≤ a + 1 by omega), ez, e4', bo_addT hb]
            rw [bo_addT hb2]
            simp [fin1_le, w14.len]
          · rcases List.mem_append.mp hx with hx | hx
            · rcases List.mem_append.mp hx with hx | hx
              · exact hm s1 hx
              · simp at hx; subst hx; exact o4
            · exact hm s2 hx
    · obtain ⟨t', S', e, o, w⟩ := bent_leaf (n + (d + 1)) k S t h ht hN
      refine ⟨t', S', ?_, o, w⟩
      have hp := ht.pl
      cases t <;> first
        | (simp [pl] at hp; done)
        | exact absurd ⟨_, rfl⟩ htup
        | (simp [init, fd_law_bent, bentC, isiT, tyT]; simp [e, fin1_le, w.len])
end Fw

namespace Fw
open PySem L2 PyProof.Rows
/-! ## the law -/
theorem is_watcher_ok (n : Nat) (t : T) (S : Sto) (h : pl2 t) : run prg (n + 3) i_is_watcher [t] S = some (.ok (.bl (goodW t)) S) := by
  rw [run_succ prg (n + 2) i_is_watcher _ S fd_is_watcher rfl rfl]
  simp [fd_is_watcher, init, igw_ok, h]
theorem is_world_ok (n : Nat) (t : T) (S : Sto) (h : pl2 t) : run prg (n + 3) i_is_world [t] S = some (.ok (.bl (goodWd t)) S) := by
  rw [run_succ prg (n + 2) i_is_world _ S fd_is_world rfl rfl]
  simp [fd_is_world, init, igd_ok, h]
theorem is_walk_ok (n : Nat) (a b c : Int) (t : T) (S : Sto) (hw : WdOk a b c) (h : pl2 t) : run prg (n + 4) i_is_walk [mkWd a b c, t] S = some (.ok (.bl (goodWk a t)) S) := by
  rw [run_succ prg (n + 3) i_is_walk _ S fd_is_walk rfl rfl]
  simp [fd_is_walk, init, need_world_ok, mkWd_pl, mkWd_good hw, igk_ok, h]
theorem co_ne3 (S : Sto) (a b c : Bool) : cop S .NotEq (.lst [.bl a, .bl b, .bl c]) (.lst [.bl a, .bl b, .bl c]) = some false := by
  cases a <;> cases b <;> cases c <;> rfl
theorem right_ok (n : Nat) (a b c : Int) (t : T) (S : Sto) (hw : WdOk a b c) {N d : Nat} (ht : okD N d t) (hN : N ≤ line) : run prg (n + 5) i_law_right [mkWd a b c, t] S = some (.ok (.bl true) S) := by
  rw [run_succ prg (n + 4) i_law_right _ S fd_law_right rfl rfl]
  have h2 := ht.pl2
  have h3 := fun n S => lik_ok n a b c t S ht hN
  have rr : rngT 0 2 = [.int 0, .int 1] := rfl
  have e0 : cop S .NotEq (.lst []) (.lst []) = some false := rfl
  simp [fd_law_right, init, liw_ok, liwd_ok, h3, h2, line, bindT, okR, rr, forL, frT, is_watcher_ok, is_world_ok, is_walk_ok, hw, co_ne3, lcL, lcT, wipeR, isiT, tyT, e0]

/-- the store that the law has while it runs: tuns alone -/
theorem trip_ints {ns : List Int} (h : ns.length = 5) : okD 21 1 (.tup (ns.map T.int)) := by
  refine ⟨by simp [h], fun x hx => ?_⟩
  obtain ⟨i, _, rfl⟩ := List.mem_map.mp hx
  trivial
theorem mkW_okD {w a b c d e f : Int} {g : Str} (h : WOk w a b c d e f g) : okD 21 1 (mkW a b c d e f g) := by
  have hg : g ∈ five := by
    have := five_keep
    rcases h.2.2.2.2.2.2.2.2.2.2.2.2 with rfl | rfl
    · exact this.1
    · exact this.2.1
  simp [mkW, okD, atom, hg]
theorem mkWd_okD (a b c : Int) : okD 21 1 (mkWd a b c) := by simp [mkWd, okD, atom]
def lawIn : IS := match fd_law.body with
  | .seq (.for_ _ _ (.seq _ (.seq (.for_ _ _ b) _))) _ => b
  | _ => .skip
def lawEnd : IS := match fd_law.body with
  | .seq _ b => b
  | _ => .skip
theorem law_split : fd_law.body = .seq (.for_ (.nm 1) (.rg1 (.blt false .max (.cons (.lit (.int 4)) (.cons (.blt false .min (.cons (.lit (.int 12)) (.cons (.op false .Add (.blt false .len (.cons (.var 0) .nil)) (.lit (.int 4))) .nil))) .nil)))) (.seq (.asg (.nm 4) (.call i_law_tun (.cons (.var 0) (.cons (.var 1) .nil)))) (.seq (.for_ (.nm 5) (.rg1 (.lit (.int 8))) lawIn) .skip))) lawEnd := rfl
def InnS (ns : List Int) (k : Nat) (ρ : Rho) (S : Sto) : Prop := Tn S k ∧ Cl S ∧ ∃ a b c d e f g h i j, ρ = [some (.scr ns), a, b, c, some (.box k), d, e, f, g, h, i, j]
theorem inner_turn (n k : Nat) (ns : List Int) (x : T) (ρ : Rho) (S : Sto) (h : InnS ns k ρ S) : ∃ ρ' S', frT ⟨run prg (n + 12), cvals, prg.lam, prg.wf⟩ (.nm 5) lawIn x ρ S = some (.nx ρ' S') ∧ InnS ns k ρ' S' := by
  obtain ⟨tn, cl, a, b, c, d, e, f, g, hh, i, j, rfl⟩ := h
  obtain ⟨p1, p2, p3, p4, p5, p6, p7, S1, e1, wok, w1⟩ := law_watcher_ok (n + 9) k S 9 tn (by decide) (by decide)
  obtain ⟨q1, q2, q3, S2, e2, wdok, _, w2⟩ := law_world_ok (n + 9) k S1 w1.tn
  have cl2 := (cl.tw w1).tw w2
  obtain ⟨ws, ls, S3, _, _, e3, wl, _, w3⟩ := law_trip_ok (n + 9) k S2 (mkW p1 p2 p3 p4 p5 p6 p7) p1 p2 q1 q2 q3 5 _ rfl wdok w2.tn cl2 (by decide) (by decide)
  have hwl : ws.length = 5 := by rw [wl]; rfl
  obtain ⟨t, S4, e4, m4, w4⟩ := any_ok (n + 10) k S3 [mkW p1 p2 p3 p4 p5 p6 p7, mkWd q1 q2 q3, .tup (ws.map T.int)] w3.tn (by simp) (by simp)
  have o4 : okD 21 1 t := by
    simp only [List.mem_cons, List.not_mem_nil, or_false] at m4
    rcases m4 with rfl | rfl | rfl
    · exact mkW_okD wok
    · exact mkWd_okD _ _ _
    · exact trip_ints hwl
  obtain ⟨t5, S5, e5, o5, w5⟩ := bent_ok 1 (n + 6) k S4 t 21 o4 (by decide) (by decide) w4.tn
  obtain ⟨t6, S6, e6, o6, w6⟩ := bent_ok 3 (n + 4) k S5 t5 22 o5 (by decide) (by decide) w5.tn
  obtain ⟨t7, S7, e7, o7, w7⟩ := anything_ok 2 (n + 7) k S6 w6.tn
  have e7' : run prg (n + 12) i_law_anything [.box k, .int 2] S6 = some (.ok t7 S7) := e7
  have w17 := (((((w1.trans w2).trans w3).trans w4).trans w5).trans w6).trans w7
  have r4 := fun S => right_ok (n + 7) q1 q2 q3 t S wdok o4 (by decide)
  have r5 := fun S => right_ok (n + 7) q1 q2 q3 t5 S wdok o5 (by decide)
  have r6 := fun S => right_ok (n + 7) q1 q2 q3 t6 S wdok o6 (by decide)
  have r7 := fun S => right_ok (n + 7) q1 q2 q3 t7 S wdok o7 (by decide)
  refine ⟨[some (.scr ns), a, b, c, some (.box k), some x, some (.lst [mkW p1 p2 p3 p4 p5 p6 p7, mkWd q1 q2 q3, .tup (ws.map T.int)]), some t, some t5, some t7, some (mkW p1 p2 p3 p4 p5 p6 p7), some (mkWd q1 q2 q3)], S7, ?_, w17.tn, cl.tw w17, a, b, c, _, _, _, _, _, _, _, rfl⟩
  simp [frT, lawIn, fd_law, bindT, e1, e2, e3, line, e4, e5, forL, e6, e7', r4, r5, r6, r7]
def OutI (ns : List Int) (ρ : Rho) (S : Sto) : Prop := Cl S ∧ ∃ b c d e f g h i j k l, ρ = [some (.scr ns), b, c, d, e, f, g, h, i, j, k, l]
theorem outer_turn (n : Nat) (ns : List Int) (x : Nat) (ρ : Rho) (S : Sto) (h : OutI ns ρ S) : ∃ ρ' S', frT ⟨run prg (n + 12), cvals, prg.lam, prg.wf⟩ (.nm 1) (.seq (.asg (.nm 4) (.call i_law_tun (.cons (.var 0) (.cons (.var 1) .nil)))) (.seq (.for_ (.nm 5) (.rg1 (.lit (.int 8))) lawIn) .skip)) (.int x) ρ S = some (.nx ρ' S') ∧ OutI ns ρ' S' := by
  obtain ⟨cl, b, c, d, e, f, g, hh, i, j, k, l, rfl⟩ := h
  obtain ⟨ob, e1, p, q, rfl, p0, q0, q1⟩ := tun_ok (n + 11) x S ns
  have tn : Tn (S ++ [.lst [.int p, .int q]]) S.length := ⟨p, q, by simp, p0, q0, q1⟩
  have cl1 : Cl (S ++ [.lst [.int p, .int q]]) := cl.app rfl
  obtain ⟨ρ', S', e2, h1, h2, a', b', c', d', e', f', g', h', i', j', rfl⟩ := forL_inv (g := frT ⟨run prg (n + 12), cvals, prg.lam, prg.wf⟩ (.nm 5) lawIn) (InnS ns S.length) (l := rngT 0 8)
    (fun y _ ρ0 S0 hi => by
      obtain ⟨ρ', S', e, i⟩ := inner_turn n S.length ns y ρ0 S0 hi
      exact ⟨ρ', S', .inl e, i⟩) (ρ := [some (.scr ns), some (.int x), c, d, some (.box S.length), f, g, hh, i, j, k, l]) (S := S ++ [.lst [.int p, .int q]]) ⟨tn, cl1, _, _, _, _, _, _, _, _, _, _, rfl⟩
  refine ⟨[some (.scr ns), a', b', c', some (.box S.length), d', e', f', g', h', i', j'], S', ?_, h2, _, _, _, _, _, _, _, _, _, _, _, rfl⟩
  simp [frT, bindT, e1, okR, e2]

def tailT (l : List T) : T := .tup (l ++ [.int 0, .int 3, .int 1, .int 3, .str (Str.ofString "keep")])
def r0 (n : Nat) : List T := (List.replicate n [T.int 0]).flatten
def dueL : List T := [tailT [.int 0, .int 0], tailT [.int 1, .int 0], tailT [.int (-1000000000000000000000000000000), .int 1000000000000000000000000000000], tailT [.int 0, .int 1000000000000000000000000000001], tailT [.bl true, .int 2],
  .tup [.int 0, .int 1, .int 4, .int 0, .int 1, .int 1, .str (Str.ofString "keep")], .tup [.int 0, .int 1, .int 0, .int (-1), .int 1, .int 1, .str (Str.ofString "keep")], .tup [.int 0, .int 1, .int 0, .int 0, .int 0, .int 1, .str (Str.ofString "keep")],
  .tup [.int 0, .int 1, .int 0, .int 0, .int 1, .int 4, .str (Str.ofString "keep")], .tup [.int 0, .int 1, .int 0, .int 0, .int 1, .int 1, .str (Str.ofString "Keep")], .tup [.int 0, .int 1, .int 0, .int 0, .int 1, .int 1], .lst [.int 0, .int 0, .int 0, .int 3, .int 1, .int 3, .str (Str.ofString "keep")],
  .tup [.int 3, .int 3, .int 2], .tup [.int 3, .int 3, .int 3], .tup [.int 4, .int 0, .int 0], .tup [.int 0, .int 4, .int 0], .tup [.int 0, .int 0, .bl true], .tup [], .tup [.int 5], .tup [.int 0, .int 2, .int 4], .tup [.int 0, .int 3], .tup (r0 100),
  .tup (r0 101), .tup [.int 100000000000000000000000000000000], .tup [.int 100000000000000000000000000000001], .lst [.int 0, .int 1], .tup [.int 0, .non]]
theorem rep_ok (n : Nat) (h : n ≤ 101) : okD 101 1 (.tup (r0 n)) := by
  unfold r0
  refine ⟨by simp [h], fun x hx => ?_⟩
  simp at hx
  rw [hx.2]; trivial
theorem dueL_ok : ∀ t ∈ dueL, okD 101 1 t := by
  have h := five_keep
  have r1 := rep_ok 100 (by decide)
  have r2 := rep_ok 101 (by decide)
  intro t ht
  simp only [dueL, List.mem_cons, List.not_mem_nil, or_false, tailT, List.cons_append, List.nil_append] at ht
  rcases ht with rfl | rfl | rfl | rfl | rfl | rfl | rfl | rfl | rfl | rfl | rfl | rfl | rfl | rfl | rfl | rfl | rfl | rfl | rfl | rfl | rfl | rfl | rfl | rfl | rfl | rfl | rfl <;> first
    | exact r1
    | exact r2
    | simp [okD, atom, h]
theorem bop_rep (a : T) (k : Int) (h : decide (2 ≤ k) = true) (h2 : decide (k ≤ 1000) = true) : bop .Mult (.tup [a]) (.int k) = some (.tup (List.replicate k.toNat [a]).flatten) := by
  simp only [decide_eq_true_eq] at h h2
  simp [bop, h, h2]
theorem end_ok (n : Nat) (ns : List Int) (ρ : Rho) (S : Sto) (h : OutI ns ρ S) : ∃ S', fin false 0 (evS ⟨run prg (n + 12), cvals, prg.lam, prg.wf⟩ lawEnd ρ S) = some (.ok (.bl true) S') := by
  obtain ⟨cl, b, c, d, e, f, g, hh, i, j, k, l, rfl⟩ := h
  have e1 : ∀ tl, lcL (lcT ⟨run prg (n + 12), cvals, prg.lam, prg.wf⟩ (.var 7) (.nm 7) (.not (.call i_law_right (.cons (.tup (.cons (.lit (.int 2)) (.cons (.lit (.int 1)) (.cons (.lit (.int 1)) .nil)))) (.cons (.var 7) .nil)))) [some (.scr ns), b, tl, some (.lst dueL), e, f, g, none, i, j, k, l]) dueL [] S = some ([], S) := by
    intro tl
    have := lcL_pure (g := lcT ⟨run prg (n + 12), cvals, prg.lam, prg.wf⟩ (.var 7) (.nm 7) (.not (.call i_law_right (.cons (.tup (.cons (.lit (.int 2)) (.cons (.lit (.int 1)) (.cons (.lit (.int 1)) .nil)))) (.cons (.var 7) .nil)))) [some (.scr ns), b, tl, some (.lst dueL), e, f, g, none, i, j, k, l]) (f := fun _ => none) (S := S) (l := dueL) (acc := []) (fun x hx => by
      have r := right_ok (n + 7) 2 1 1 x S ⟨by decide, by decide, by decide, by decide, by decide, by decide⟩ (dueL_ok x hx) (by decide)
      simp only [mkWd] at r
      simp [lcT, bindT, line, r]) (by simp [dueL, line])
    rw [this]
    simp
  have e0 : cop S .Eq (.lst []) (.lst []) = some true := rfl
  have m1 := bop_rep (.int 0) 100 rfl rfl
  have m2 := bop_rep (.int 0) 101 rfl rfl
  have t1 : (100 : Int).toNat = 100 := rfl
  have t2 : (101 : Int).toNat = 101 := rfl
  rw [t1] at m1
  rw [t2] at m2
  have m1 : bop .Mult (.tup [.int 0]) (.int 100) = some (.tup (r0 100)) := m1
  have m2 : bop .Mult (.tup [.int 0]) (.int 101) = some (.tup (r0 101)) := m2
  simp only [dueL, tailT, List.cons_append, List.nil_append] at e1
  have ff : fin1 0 (.bl true) S = .ok (.bl true) [] := fin1_cut (S := []) (X := S) rfl rfl (by intro ob ho; simp at ho)
  refine ⟨[], ?_⟩
  simp [lawEnd, fd_law, bindT, line, bq_addT, bq_addL, m1, m2, wipeR, e1, e0, ff]
end Fw

namespace Fw
open PySem L2 PyProof.Rows
theorem init_law (ns : List Int) : init fd_law [.scr ns] = [some (.scr ns), none, none, none, none, none, none, none, none, none, none, none] := rfl
theorem law_rng (n : Nat) (ns : List Int) : evE ⟨run prg (n + 12), cvals, prg.lam, prg.wf⟩ (.blt false .max (.cons (.lit (.int 4)) (.cons (.blt false .min (.cons (.lit (.int 12)) (.cons (.op false .Add (.blt false .len (.cons (.var 0) .nil)) (.lit (.int 4))) .nil))) .nil))) [some (.scr ns), none, none, none, none, none, none, none, none, none, none, none] [] = some (.ok (.int ((max 4 (min 12 (ns.length + 4)) : Nat) : Int)) []) := by
  have mm : (if (if (ns.length : Int) + 4 < 12 then (ns.length : Int) + 4 else 12) > 4 then (if (ns.length : Int) + 4 < 12 then (ns.length : Int) + 4 else 12) else 4) = ((max 4 (min 12 (ns.length + 4)) : Nat) : Int) := by
    split <;> split <;> omega
  rw [← mm]
  simp
theorem fin_for (E : EV) (tg : Tg) (src : IE) (b c : IS) (ρ ρ' : Rho) (S S' : Sto) (l : List T) (e1 : evE E src ρ S = some (.ok (.tup l) S)) (e2 : forL (frT E tg b) l ρ S = some (.nx ρ' S')) : evS E (.seq (.for_ tg src b) c) ρ S = evS E c ρ' S' := by
  rw [wS_seq, wS_for, e1]
  simp only [e2]
theorem law_runs_n (n : Nat) (ns : List Int) : ∃ S, run prg (n + 13) i_law [.scr ns] [] = some (.ok (.bl true) S) := by
  rw [run_succ prg (n + 12) i_law _ [] fd_law rfl rfl, law_split, init_law]
  obtain ⟨ρ', S', e, i⟩ := forL_inv (g := frT ⟨run prg (n + 12), cvals, prg.lam, prg.wf⟩ (.nm 1) (.seq (.asg (.nm 4) (.call i_law_tun (.cons (.var 0) (.cons (.var 1) .nil)))) (.seq (.for_ (.nm 5) (.rg1 (.lit (.int 8))) lawIn) .skip))) (OutI ns) (l := rngT 0 (max 4 (min 12 (ns.length + 4))))
    (fun y hy ρ0 S0 hi => by
      obtain ⟨k, _, rfl⟩ := rngT_mem hy
      obtain ⟨ρ', S', e, i⟩ := outer_turn n ns k ρ0 S0 hi
      rw [Int.zero_add]
      exact ⟨ρ', S', .inl e, i⟩) (ρ := [some (.scr ns), none, none, none, none, none, none, none, none, none, none, none]) (S := []) ⟨by intro ob ho; simp at ho, _, _, _, _, _, _, _, _, _, _, _, rfl⟩
  obtain ⟨S2, e2⟩ := end_ok n ns ρ' S' i
  refine ⟨S2, ?_⟩
  have ok : okR ((max 4 (min 12 (ns.length + 4)) : Nat) : Int) = true := by simp only [okR, Bool.and_eq_true, decide_eq_true_eq]; omega
  have r1 : evE ⟨run prg (n + 12), cvals, prg.lam, prg.wf⟩ (.rg1 (.blt false .max (.cons (.lit (.int 4)) (.cons (.blt false .min (.cons (.lit (.int 12)) (.cons (.op false .Add (.blt false .len (.cons (.var 0) .nil)) (.lit (.int 4))) .nil))) .nil)))) [some (.scr ns), none, none, none, none, none, none, none, none, none, none, none] [] = some (.ok (.tup (rngT 0 (max 4 (min 12 (ns.length + 4))))) []) := by
    rw [wE_rg1, law_rng]
    simp only [ok, if_true, Int.toNat_natCast]
  rw [← e2]
  rw [show prg.cv = cvals from rfl, fin_for _ _ _ _ _ _ _ _ _ _ r1 e]
  generalize evS ⟨run prg (n + 12), cvals, prg.lam, prg.wf⟩ lawEnd ρ' S' = F
  rfl
theorem law_runs (ns : List Int) (h : ns.length ≤ 63) : ∃ S, run prg 40 i_law [.scr ns] [] = some (.ok (.bl true) S) := law_runs_n 27 ns
end Fw

namespace Fw
open PySem L2 PyProof.Rows
/-! ## what the top has left -/
theorem all_mk {l : PySem.W.OpenLaw} {w : World} {K : PySem.W.Frag} {h : Heap} {mg : Str → Option Value} {fa : Addr} (X : K.In h) (G : h.Ns mainGlobals mg) (hfa : mg "law" = some (.ref fa))
    {oc0 kV0 dc0 pm0 cd0 ct0 : Value} {od0 an0 : Option Addr} {sl0 : Array (Option Value)} {f0 : Addr} {oc1 kV1 dc1 pm1 cd1 ct1 : Value} {od1 an1 : Option Addr} {sl1 : Array (Option Value)} {f1 : Addr} {oc2 kV2 dc2 pm2 cd2 ct2 : Value} {od2 an2 : Option Addr} {sl2 : Array (Option Value)} {f2 : Addr} {oc3 kV3 dc3 pm3 cd3 ct3 : Value} {od3 an3 : Option Addr} {sl3 : Array (Option Value)} {f3 : Addr} {oc4 kV4 dc4 pm4 cd4 ct4 : Value} {od4 an4 : Option Addr} {sl4 : Array (Option Value)} {f4 : Addr} {oc5 kV5 dc5 pm5 cd5 ct5 : Value} {od5 an5 : Option Addr} {sl5 : Array (Option Value)} {f5 : Addr} {oc6 kV6 dc6 pm6 cd6 ct6 : Value} {od6 an6 : Option Addr} {sl6 : Array (Option Value)} {f6 : Addr} {oc7 kV7 dc7 pm7 cd7 ct7 : Value} {od7 an7 : Option Addr} {sl7 : Array (Option Value)} {f7 : Addr} {oc8 kV8 dc8 pm8 cd8 ct8 : Value} {od8 an8 : Option Addr} {sl8 : Array (Option Value)} {f8 : Addr} {oc9 kV9 dc9 pm9 cd9 ct9 : Value} {od9 an9 : Option Addr} {sl9 : Array (Option Value)} {f9 : Addr} {oc10 kV10 dc10 pm10 cd10 ct10 : Value} {od10 an10 : Option Addr} {sl10 : Array (Option Value)} {f10 : Addr} {oc11 kV11 dc11 pm11 cd11 ct11 : Value} {od11 an11 : Option Addr} {sl11 : Array (Option Value)} {f11 : Addr} {oc12 kV12 dc12 pm12 cd12 ct12 : Value} {od12 an12 : Option Addr} {sl12 : Array (Option Value)} {f12 : Addr} {oc13 kV13 dc13 pm13 cd13 ct13 : Value} {od13 an13 : Option Addr} {sl13 : Array (Option Value)} {f13 : Addr} {oc14 kV14 dc14 pm14 cd14 ct14 : Value} {od14 an14 : Option Addr} {sl14 : Array (Option Value)} {f14 : Addr} {oc15 kV15 dc15 pm15 cd15 ct15 : Value} {od15 an15 : Option Addr} {sl15 : Array (Option Value)} {f15 : Addr} {oc16 kV16 dc16 pm16 cd16 ct16 : Value} {od16 an16 : Option Addr} {sl16 : Array (Option Value)} {f16 : Addr} {oc17 kV17 dc17 pm17 cd17 ct17 : Value} {od17 an17 : Option Addr} {sl17 : Array (Option Value)} {f17 : Addr} {oc18 kV18 dc18 pm18 cd18 ct18 : Value} {od18 an18 : Option Addr} {sl18 : Array (Option Value)} {f18 : Addr} {oc19 kV19 dc19 pm19 cd19 ct19 : Value} {od19 an19 : Option Addr} {sl19 : Array (Option Value)} {f19 : Addr} {oc20 kV20 dc20 pm20 cd20 ct20 : Value} {od20 an20 : Option Addr} {sl20 : Array (Option Value)} {f20 : Addr} {oc21 kV21 dc21 pm21 cd21 ct21 : Value} {od21 an21 : Option Addr} {sl21 : Array (Option Value)} {f21 : Addr} {e0 : Addr} {e1 : Addr} {tk0 : Tok}
    (a0 : PySem.W.nsIn K mainGlobals "is_from" = some (some (.ref f0))) (l0 : K.lookup f0 = some ⟨oc0, od0, .func (PySem.W.fnOf "is_from" "is_from" (defArgs (top 5)) (defBody (top 5)) (defScope (top 5)) .none kV0 dc0 pm0 an0 cd0 ct0), sl0⟩) (c0 : PySem.W.codeIn K cd0 "is_from" = true) (k0 : PySem.W.keepIn K (.ref f0) = true)
    (a1 : PySem.W.nsIn K mainGlobals "is_good_watcher" = some (some (.ref f1))) (l1 : K.lookup f1 = some ⟨oc1, od1, .func (PySem.W.fnOf "is_good_watcher" "is_good_watcher" (defArgs (top 6)) (defBody (top 6)) (defScope (top 6)) .none kV1 dc1 pm1 an1 cd1 ct1), sl1⟩) (c1 : PySem.W.codeIn K cd1 "is_good_watcher" = true) (k1 : PySem.W.keepIn K (.ref f1) = true)
    (a2 : PySem.W.nsIn K mainGlobals "is_good_world" = some (some (.ref f2))) (l2 : K.lookup f2 = some ⟨oc2, od2, .func (PySem.W.fnOf "is_good_world" "is_good_world" (defArgs (top 7)) (defBody (top 7)) (defScope (top 7)) .none kV2 dc2 pm2 an2 cd2 ct2), sl2⟩) (c2 : PySem.W.codeIn K cd2 "is_good_world" = true) (k2 : PySem.W.keepIn K (.ref f2) = true)
    (a3 : PySem.W.nsIn K mainGlobals "need_world" = some (some (.ref f3))) (l3 : K.lookup f3 = some ⟨oc3, od3, .func (PySem.W.fnOf "need_world" "need_world" (defArgs (top 8)) (defBody (top 8)) (defScope (top 8)) .none kV3 dc3 pm3 an3 cd3 ct3), sl3⟩) (c3 : PySem.W.codeIn K cd3 "need_world" = true) (k3 : PySem.W.keepIn K (.ref f3) = true)
    (a4 : PySem.W.nsIn K mainGlobals "is_watcher" = some (some (.ref f4))) (l4 : K.lookup f4 = some ⟨oc4, od4, .func (PySem.W.fnOf "is_watcher" "is_watcher" (defArgs (top 9)) (defBody (top 9)) (defScope (top 9)) .none kV4 dc4 pm4 an4 cd4 ct4), sl4⟩) (c4 : PySem.W.codeIn K cd4 "is_watcher" = true) (k4 : PySem.W.keepIn K (.ref f4) = true)
    (a5 : PySem.W.nsIn K mainGlobals "is_world" = some (some (.ref f5))) (l5 : K.lookup f5 = some ⟨oc5, od5, .func (PySem.W.fnOf "is_world" "is_world" (defArgs (top 10)) (defBody (top 10)) (defScope (top 10)) .none kV5 dc5 pm5 an5 cd5 ct5), sl5⟩) (c5 : PySem.W.codeIn K cd5 "is_world" = true) (k5 : PySem.W.keepIn K (.ref f5) = true)
    (a6 : PySem.W.nsIn K mainGlobals "is_good_walk" = some (some (.ref f6))) (l6 : K.lookup f6 = some ⟨oc6, od6, .func (PySem.W.fnOf "is_good_walk" "is_good_walk" (defArgs (top 12)) (defBody (top 12)) (defScope (top 12)) .none kV6 dc6 pm6 an6 cd6 ct6), sl6⟩) (c6 : PySem.W.codeIn K cd6 "is_good_walk" = true) (k6 : PySem.W.keepIn K (.ref f6) = true)
    (a7 : PySem.W.nsIn K mainGlobals "is_walk" = some (some (.ref f7))) (l7 : K.lookup f7 = some ⟨oc7, od7, .func (PySem.W.fnOf "is_walk" "is_walk" (defArgs (top 13)) (defBody (top 13)) (defScope (top 13)) .none kV7 dc7 pm7 an7 cd7 ct7), sl7⟩) (c7 : PySem.W.codeIn K cd7 "is_walk" = true) (k7 : PySem.W.keepIn K (.ref f7) = true)
    (a8 : PySem.W.nsIn K mainGlobals "_law_tun" = some (some (.ref f8))) (l8 : K.lookup f8 = some ⟨oc8, od8, .func (PySem.W.fnOf "_law_tun" "_law_tun" (defArgs (top 15)) (defBody (top 15)) (defScope (top 15)) .none kV8 dc8 pm8 an8 cd8 ct8), sl8⟩) (c8 : PySem.W.codeIn K cd8 "_law_tun" = true) (k8 : PySem.W.keepIn K (.ref f8) = true)
    (a9 : PySem.W.nsIn K mainGlobals "_law_scoop" = some (some (.ref f9))) (l9 : K.lookup f9 = some ⟨oc9, od9, .func (PySem.W.fnOf "_law_scoop" "_law_scoop" (defArgs (top 16)) (defBody (top 16)) (defScope (top 16)) .none kV9 dc9 pm9 an9 cd9 ct9), sl9⟩) (c9 : PySem.W.codeIn K cd9 "_law_scoop" = true) (k9 : PySem.W.keepIn K (.ref f9) = true)
    (a10 : PySem.W.nsIn K mainGlobals "_law_any" = some (some (.ref f10))) (l10 : K.lookup f10 = some ⟨oc10, od10, .func (PySem.W.fnOf "_law_any" "_law_any" (defArgs (top 17)) (defBody (top 17)) (defScope (top 17)) .none kV10 dc10 pm10 an10 cd10 ct10), sl10⟩) (c10 : PySem.W.codeIn K cd10 "_law_any" = true) (k10 : PySem.W.keepIn K (.ref f10) = true)
    (a11 : PySem.W.nsIn K mainGlobals "_law_watcher" = some (some (.ref f11))) (l11 : K.lookup f11 = some ⟨oc11, od11, .func (PySem.W.fnOf "_law_watcher" "_law_watcher" (defArgs (top 18)) (defBody (top 18)) (defScope (top 18)) .none kV11 dc11 pm11 an11 cd11 ct11), sl11⟩) (c11 : PySem.W.codeIn K cd11 "_law_watcher" = true) (k11 : PySem.W.keepIn K (.ref f11) = true)
    (a12 : PySem.W.nsIn K mainGlobals "_law_world" = some (some (.ref f12))) (l12 : K.lookup f12 = some ⟨oc12, od12, .func (PySem.W.fnOf "_law_world" "_law_world" (defArgs (top 19)) (defBody (top 19)) (defScope (top 19)) .none kV12 dc12 pm12 an12 cd12 ct12), sl12⟩) (c12 : PySem.W.codeIn K cd12 "_law_world" = true) (k12 : PySem.W.keepIn K (.ref f12) = true)
    (a13 : PySem.W.nsIn K mainGlobals "_law_trip" = some (some (.ref f13))) (l13 : K.lookup f13 = some ⟨oc13, od13, .func (PySem.W.fnOf "_law_trip" "_law_trip" (defArgs (top 20)) (defBody (top 20)) (defScope (top 20)) .none kV13 dc13 pm13 an13 cd13 ct13), sl13⟩) (c13 : PySem.W.codeIn K cd13 "_law_trip" = true) (k13 : PySem.W.keepIn K (.ref f13) = true)
    (a14 : PySem.W.nsIn K mainGlobals "_law_int" = some (some (.ref f14))) (l14 : K.lookup f14 = some ⟨oc14, od14, .func (PySem.W.fnOf "_law_int" "_law_int" (defArgs (top 21)) (defBody (top 21)) (defScope (top 21)) .none kV14 dc14 pm14 an14 cd14 ct14), sl14⟩) (c14 : PySem.W.codeIn K cd14 "_law_int" = true) (k14 : PySem.W.keepIn K (.ref f14) = true)
    (a15 : PySem.W.nsIn K mainGlobals "_law_is_watcher" = some (some (.ref f15))) (l15 : K.lookup f15 = some ⟨oc15, od15, .func (PySem.W.fnOf "_law_is_watcher" "_law_is_watcher" (defArgs (top 22)) (defBody (top 22)) (defScope (top 22)) .none kV15 dc15 pm15 an15 cd15 ct15), sl15⟩) (c15 : PySem.W.codeIn K cd15 "_law_is_watcher" = true) (k15 : PySem.W.keepIn K (.ref f15) = true)
    (a16 : PySem.W.nsIn K mainGlobals "_law_is_world" = some (some (.ref f16))) (l16 : K.lookup f16 = some ⟨oc16, od16, .func (PySem.W.fnOf "_law_is_world" "_law_is_world" (defArgs (top 23)) (defBody (top 23)) (defScope (top 23)) .none kV16 dc16 pm16 an16 cd16 ct16), sl16⟩) (c16 : PySem.W.codeIn K cd16 "_law_is_world" = true) (k16 : PySem.W.keepIn K (.ref f16) = true)
    (a17 : PySem.W.nsIn K mainGlobals "_law_is_walk" = some (some (.ref f17))) (l17 : K.lookup f17 = some ⟨oc17, od17, .func (PySem.W.fnOf "_law_is_walk" "_law_is_walk" (defArgs (top 24)) (defBody (top 24)) (defScope (top 24)) .none kV17 dc17 pm17 an17 cd17 ct17), sl17⟩) (c17 : PySem.W.codeIn K cd17 "_law_is_walk" = true) (k17 : PySem.W.keepIn K (.ref f17) = true)
    (a18 : PySem.W.nsIn K mainGlobals "_law_anything" = some (some (.ref f18))) (l18 : K.lookup f18 = some ⟨oc18, od18, .func (PySem.W.fnOf "_law_anything" "_law_anything" (defArgs (top 25)) (defBody (top 25)) (defScope (top 25)) .none kV18 dc18 pm18 an18 cd18 ct18), sl18⟩) (c18 : PySem.W.codeIn K cd18 "_law_anything" = true) (k18 : PySem.W.keepIn K (.ref f18) = true)
    (a19 : PySem.W.nsIn K mainGlobals "_law_bent" = some (some (.ref f19))) (l19 : K.lookup f19 = some ⟨oc19, od19, .func (PySem.W.fnOf "_law_bent" "_law_bent" (defArgs (top 26)) (defBody (top 26)) (defScope (top 26)) .none kV19 dc19 pm19 an19 cd19 ct19), sl19⟩) (c19 : PySem.W.codeIn K cd19 "_law_bent" = true) (k19 : PySem.W.keepIn K (.ref f19) = true)
    (a20 : PySem.W.nsIn K mainGlobals "_law_right" = some (some (.ref f20))) (l20 : K.lookup f20 = some ⟨oc20, od20, .func (PySem.W.fnOf "_law_right" "_law_right" (defArgs (top 27)) (defBody (top 27)) (defScope (top 27)) .none kV20 dc20 pm20 an20 cd20 ct20), sl20⟩) (c20 : PySem.W.codeIn K cd20 "_law_right" = true) (k20 : PySem.W.keepIn K (.ref f20) = true)
    (a21 : PySem.W.nsIn K mainGlobals "law" = some (some (.ref f21))) (l21 : K.lookup f21 = some ⟨oc21, od21, .func (PySem.W.fnOf "law" "law" (defArgs (top 28)) (defBody (top 28)) (defScope (top 28)) .none kV21 dc21 pm21 an21 cd21 ct21), sl21⟩) (c21 : PySem.W.codeIn K cd21 "law" = true) (k21 : PySem.W.keepIn K (.ref f21) = true)
    (xa0 : PySem.W.nsIn K mainGlobals "WatchError" = some (some (.ref e0))) (xp0 : PySem.W.excIn K e0 [.type "ValueError", .type "Exception", .type "BaseException", .type "object"] "ValueError.__new__" = true) (xk0 : PySem.W.keepIn K (.ref e0) = true) (xb0 : PySem.W.subIn K (.ref e0) (.type "BaseException") = some true) (xt0 : PySem.W.typeIn K (.ref e0) = some (.type "type"))
    (xa1 : PySem.W.nsIn K mainGlobals "InvalidWorld" = some (some (.ref e1))) (xp1 : PySem.W.excIn K e1 [.type "ValueError", .type "Exception", .type "BaseException", .type "object"] "ValueError.__new__" = true) (xk1 : PySem.W.keepIn K (.ref e1) = true) (xb1 : PySem.W.subIn K (.ref e1) (.type "BaseException") = some true) (xt1 : PySem.W.typeIn K (.ref e1) = some (.type "type"))
    (ca0 : PySem.W.nsIn K mainGlobals "FAR" = some (some (.int 100000000000000000000000000000000 tk0)))
    (z0 : PySem.W.nsIn K mainGlobals "abs" = some none)
    (z1 : PySem.W.nsIn K mainGlobals "all" = some none)
    (z2 : PySem.W.nsIn K mainGlobals "bool" = some none)
    (z3 : PySem.W.nsIn K mainGlobals "int" = some none)
    (z4 : PySem.W.nsIn K mainGlobals "isinstance" = some none)
    (z5 : PySem.W.nsIn K mainGlobals "len" = some none)
    (z6 : PySem.W.nsIn K mainGlobals "list" = some none)
    (z7 : PySem.W.nsIn K mainGlobals "max" = some none)
    (z8 : PySem.W.nsIn K mainGlobals "min" = some none)
    (z9 : PySem.W.nsIn K mainGlobals "range" = some none)
    (z10 : PySem.W.nsIn K mainGlobals "str" = some none)
    (z11 : PySem.W.nsIn K mainGlobals "tuple" = some none)
    (z12 : PySem.W.nsIn K mainGlobals "zip" = some none) :
    ∃ fd : FuncData, (∀ (s : Shared) (v : Value), BindsTo s fd ⟨[v], []⟩ [("_law_script", v)]) ∧ ∀ base : Heap, K.In base → base.Ns mainGlobals mg → FnOk l.prog w K mg base (L2.CX l.prog w) 40 fa fd ["_law_script"] (spLaw K) := by
  have e : fa = f21 := by
    have e := hfa.symm.trans (PySem.W.mg_of X G a21)
    cases e; rfl
  subst fa
  let F : LF lw K mg := {
    g := ⟨K, fun i => [f0, f1, f2, f3, f4, f5, f6, f7, f8, f9, f10, f11, f12, f13, f14, f15, f16, f17, f18, f19, f20, f21].getD i 0, fun i => [e0, e1].getD i 0, []⟩
    fdOf := fun i => [PySem.W.fnOf "is_from" "is_from" (defArgs (top 5)) (defBody (top 5)) (defScope (top 5)) .none kV0 dc0 pm0 an0 cd0 ct0,
      PySem.W.fnOf "is_good_watcher" "is_good_watcher" (defArgs (top 6)) (defBody (top 6)) (defScope (top 6)) .none kV1 dc1 pm1 an1 cd1 ct1,
      PySem.W.fnOf "is_good_world" "is_good_world" (defArgs (top 7)) (defBody (top 7)) (defScope (top 7)) .none kV2 dc2 pm2 an2 cd2 ct2,
      PySem.W.fnOf "need_world" "need_world" (defArgs (top 8)) (defBody (top 8)) (defScope (top 8)) .none kV3 dc3 pm3 an3 cd3 ct3,
      PySem.W.fnOf "is_watcher" "is_watcher" (defArgs (top 9)) (defBody (top 9)) (defScope (top 9)) .none kV4 dc4 pm4 an4 cd4 ct4,
      PySem.W.fnOf "is_world" "is_world" (defArgs (top 10)) (defBody (top 10)) (defScope (top 10)) .none kV5 dc5 pm5 an5 cd5 ct5,
      PySem.W.fnOf "is_good_walk" "is_good_walk" (defArgs (top 12)) (defBody (top 12)) (defScope (top 12)) .none kV6 dc6 pm6 an6 cd6 ct6,
      PySem.W.fnOf "is_walk" "is_walk" (defArgs (top 13)) (defBody (top 13)) (defScope (top 13)) .none kV7 dc7 pm7 an7 cd7 ct7,
      PySem.W.fnOf "_law_tun" "_law_tun" (defArgs (top 15)) (defBody (top 15)) (defScope (top 15)) .none kV8 dc8 pm8 an8 cd8 ct8,
      PySem.W.fnOf "_law_scoop" "_law_scoop" (defArgs (top 16)) (defBody (top 16)) (defScope (top 16)) .none kV9 dc9 pm9 an9 cd9 ct9,
      PySem.W.fnOf "_law_any" "_law_any" (defArgs (top 17)) (defBody (top 17)) (defScope (top 17)) .none kV10 dc10 pm10 an10 cd10 ct10,
      PySem.W.fnOf "_law_watcher" "_law_watcher" (defArgs (top 18)) (defBody (top 18)) (defScope (top 18)) .none kV11 dc11 pm11 an11 cd11 ct11,
      PySem.W.fnOf "_law_world" "_law_world" (defArgs (top 19)) (defBody (top 19)) (defScope (top 19)) .none kV12 dc12 pm12 an12 cd12 ct12,
      PySem.W.fnOf "_law_trip" "_law_trip" (defArgs (top 20)) (defBody (top 20)) (defScope (top 20)) .none kV13 dc13 pm13 an13 cd13 ct13,
      PySem.W.fnOf "_law_int" "_law_int" (defArgs (top 21)) (defBody (top 21)) (defScope (top 21)) .none kV14 dc14 pm14 an14 cd14 ct14,
      PySem.W.fnOf "_law_is_watcher" "_law_is_watcher" (defArgs (top 22)) (defBody (top 22)) (defScope (top 22)) .none kV15 dc15 pm15 an15 cd15 ct15,
      PySem.W.fnOf "_law_is_world" "_law_is_world" (defArgs (top 23)) (defBody (top 23)) (defScope (top 23)) .none kV16 dc16 pm16 an16 cd16 ct16,
      PySem.W.fnOf "_law_is_walk" "_law_is_walk" (defArgs (top 24)) (defBody (top 24)) (defScope (top 24)) .none kV17 dc17 pm17 an17 cd17 ct17,
      PySem.W.fnOf "_law_anything" "_law_anything" (defArgs (top 25)) (defBody (top 25)) (defScope (top 25)) .none kV18 dc18 pm18 an18 cd18 ct18,
      PySem.W.fnOf "_law_bent" "_law_bent" (defArgs (top 26)) (defBody (top 26)) (defScope (top 26)) .none kV19 dc19 pm19 an19 cd19 ct19,
      PySem.W.fnOf "_law_right" "_law_right" (defArgs (top 27)) (defBody (top 27)) (defScope (top 27)) .none kV20 dc20 pm20 an20 cd20 ct20,
      PySem.W.fnOf "law" "law" (defArgs (top 28)) (defBody (top 28)) (defScope (top 28)) .none kV21 dc21 pm21 an21 cd21 ct21].getD i (PySem.W.fnOf "is_from" "is_from" (defArgs (top 5)) (defBody (top 5)) (defScope (top 5)) .none kV0 dc0 pm0 an0 cd0 ct0)
    hK := rfl
    fns := by
      intro f d hd
      have hlt : f < 22 := (List.getElem?_eq_some_iff.mp hd).1
      rcases Nat.lt_or_ge f 1 with q | q
      · obtain rfl : f = 0 := by omega
        cases hd
        have Fu := L2.fun_mk (x := "is_from") (qual := "is_from") (st := top 5) l0 c0 k0
        exact ⟨Fu, PySem.W.mg_of X G a0, Fu.binds (ps := ["value", "low", "high"]) fun _ _ _ _ _ _ us hl => match us, hl with | [_, _, _], _ => rfl⟩
      rcases Nat.lt_or_ge f 2 with q | q
      · obtain rfl : f = 1 := by omega
        cases hd
        have Fu := L2.fun_mk (x := "is_good_watcher") (qual := "is_good_watcher") (st := top 6) l1 c1 k1
        exact ⟨Fu, PySem.W.mg_of X G a1, Fu.binds (ps := ["value"]) fun _ _ _ _ _ _ us hl => match us, hl with | [_], _ => rfl⟩
      rcases Nat.lt_or_ge f 3 with q | q
      · obtain rfl : f = 2 := by omega
        cases hd
        have Fu := L2.fun_mk (x := "is_good_world") (qual := "is_good_world") (st := top 7) l2 c2 k2
        exact ⟨Fu, PySem.W.mg_of X G a2, Fu.binds (ps := ["value"]) fun _ _ _ _ _ _ us hl => match us, hl with | [_], _ => rfl⟩
      rcases Nat.lt_or_ge f 4 with q | q
      · obtain rfl : f = 3 := by omega
        cases hd
        have Fu := L2.fun_mk (x := "need_world") (qual := "need_world") (st := top 8) l3 c3 k3
        exact ⟨Fu, PySem.W.mg_of X G a3, Fu.binds (ps := ["value"]) fun _ _ _ _ _ _ us hl => match us, hl with | [_], _ => rfl⟩
      rcases Nat.lt_or_ge f 5 with q | q
      · obtain rfl : f = 4 := by omega
        cases hd
        have Fu := L2.fun_mk (x := "is_watcher") (qual := "is_watcher") (st := top 9) l4 c4 k4
        exact ⟨Fu, PySem.W.mg_of X G a4, Fu.binds (ps := ["value"]) fun _ _ _ _ _ _ us hl => match us, hl with | [_], _ => rfl⟩
      rcases Nat.lt_or_ge f 6 with q | q
      · obtain rfl : f = 5 := by omega
        cases hd
        have Fu := L2.fun_mk (x := "is_world") (qual := "is_world") (st := top 10) l5 c5 k5
        exact ⟨Fu, PySem.W.mg_of X G a5, Fu.binds (ps := ["value"]) fun _ _ _ _ _ _ us hl => match us, hl with | [_], _ => rfl⟩
      rcases Nat.lt_or_ge f 7 with q | q
      · obtain rfl : f = 6 := by omega
        cases hd
        have Fu := L2.fun_mk (x := "is_good_walk") (qual := "is_good_walk") (st := top 12) l6 c6 k6
        exact ⟨Fu, PySem.W.mg_of X G a6, Fu.binds (ps := ["world", "value"]) fun _ _ _ _ _ _ us hl => match us, hl with | [_, _], _ => rfl⟩
      rcases Nat.lt_or_ge f 8 with q | q
      · obtain rfl : f = 7 := by omega
        cases hd
        have Fu := L2.fun_mk (x := "is_walk") (qual := "is_walk") (st := top 13) l7 c7 k7
        exact ⟨Fu, PySem.W.mg_of X G a7, Fu.binds (ps := ["world", "value"]) fun _ _ _ _ _ _ us hl => match us, hl with | [_, _], _ => rfl⟩
      rcases Nat.lt_or_ge f 9 with q | q
      · obtain rfl : f = 8 := by omega
        cases hd
        have Fu := L2.fun_mk (x := "_law_tun") (qual := "_law_tun") (st := top 15) l8 c8 k8
        exact ⟨Fu, PySem.W.mg_of X G a8, Fu.binds (ps := ["_law_script", "_law_k"]) fun _ _ _ _ _ _ us hl => match us, hl with | [_, _], _ => rfl⟩
      rcases Nat.lt_or_ge f 10 with q | q
      · obtain rfl : f = 9 := by omega
        cases hd
        have Fu := L2.fun_mk (x := "_law_scoop") (qual := "_law_scoop") (st := top 16) l9 c9 k9
        exact ⟨Fu, PySem.W.mg_of X G a9, Fu.binds (ps := ["_law_tun_here", "_law_wide"]) fun _ _ _ _ _ _ us hl => match us, hl with | [_, _], _ => rfl⟩
      rcases Nat.lt_or_ge f 11 with q | q
      · obtain rfl : f = 10 := by omega
        cases hd
        have Fu := L2.fun_mk (x := "_law_any") (qual := "_law_any") (st := top 17) l10 c10 k10
        exact ⟨Fu, PySem.W.mg_of X G a10, Fu.binds (ps := ["_law_tun_here", "_law_things"]) fun _ _ _ _ _ _ us hl => match us, hl with | [_, _], _ => rfl⟩
      rcases Nat.lt_or_ge f 12 with q | q
      · obtain rfl : f = 11 := by omega
        cases hd
        have Fu := L2.fun_mk (x := "_law_watcher") (qual := "_law_watcher") (st := top 18) l11 c11 k11
        exact ⟨Fu, PySem.W.mg_of X G a11, Fu.binds (ps := ["_law_tun_here", "_law_wide"]) fun _ _ _ _ _ _ us hl => match us, hl with | [_, _], _ => rfl⟩
      rcases Nat.lt_or_ge f 13 with q | q
      · obtain rfl : f = 12 := by omega
        cases hd
        have Fu := L2.fun_mk (x := "_law_world") (qual := "_law_world") (st := top 19) l12 c12 k12
        exact ⟨Fu, PySem.W.mg_of X G a12, Fu.binds (ps := ["_law_tun_here"]) fun _ _ _ _ _ _ us hl => match us, hl with | [_], _ => rfl⟩
      rcases Nat.lt_or_ge f 14 with q | q
      · obtain rfl : f = 13 := by omega
        cases hd
        have Fu := L2.fun_mk (x := "_law_trip") (qual := "_law_trip") (st := top 20) l13 c13 k13
        exact ⟨Fu, PySem.W.mg_of X G a13, Fu.binds (ps := ["_law_tun_here", "_law_watcher_so", "_law_world_so", "_law_many"]) fun _ _ _ _ _ _ us hl => match us, hl with | [_, _, _, _], _ => rfl⟩
      rcases Nat.lt_or_ge f 15 with q | q
      · obtain rfl : f = 14 := by omega
        cases hd
        have Fu := L2.fun_mk (x := "_law_int") (qual := "_law_int") (st := top 21) l14 c14 k14
        exact ⟨Fu, PySem.W.mg_of X G a14, Fu.binds (ps := ["_law_thing", "_law_least", "_law_most"]) fun _ _ _ _ _ _ us hl => match us, hl with | [_, _, _], _ => rfl⟩
      rcases Nat.lt_or_ge f 16 with q | q
      · obtain rfl : f = 15 := by omega
        cases hd
        have Fu := L2.fun_mk (x := "_law_is_watcher") (qual := "_law_is_watcher") (st := top 22) l15 c15 k15
        exact ⟨Fu, PySem.W.mg_of X G a15, Fu.binds (ps := ["_law_thing"]) fun _ _ _ _ _ _ us hl => match us, hl with | [_], _ => rfl⟩
      rcases Nat.lt_or_ge f 17 with q | q
      · obtain rfl : f = 16 := by omega
        cases hd
        have Fu := L2.fun_mk (x := "_law_is_world") (qual := "_law_is_world") (st := top 23) l16 c16 k16
        exact ⟨Fu, PySem.W.mg_of X G a16, Fu.binds (ps := ["_law_thing"]) fun _ _ _ _ _ _ us hl => match us, hl with | [_], _ => rfl⟩
      rcases Nat.lt_or_ge f 18 with q | q
      · obtain rfl : f = 17 := by omega
        cases hd
        have Fu := L2.fun_mk (x := "_law_is_walk") (qual := "_law_is_walk") (st := top 24) l17 c17 k17
        exact ⟨Fu, PySem.W.mg_of X G a17, Fu.binds (ps := ["_law_world_so", "_law_thing"]) fun _ _ _ _ _ _ us hl => match us, hl with | [_, _], _ => rfl⟩
      rcases Nat.lt_or_ge f 19 with q | q
      · obtain rfl : f = 18 := by omega
        cases hd
        have Fu := L2.fun_mk (x := "_law_anything") (qual := "_law_anything") (st := top 25) l18 c18 k18
        exact ⟨Fu, PySem.W.mg_of X G a18, Fu.binds (ps := ["_law_tun_here", "_law_depth_so"]) fun _ _ _ _ _ _ us hl => match us, hl with | [_, _], _ => rfl⟩
      rcases Nat.lt_or_ge f 20 with q | q
      · obtain rfl : f = 19 := by omega
        cases hd
        have Fu := L2.fun_mk (x := "_law_bent") (qual := "_law_bent") (st := top 26) l19 c19 k19
        exact ⟨Fu, PySem.W.mg_of X G a19, Fu.binds (ps := ["_law_tun_here", "_law_thing"]) fun _ _ _ _ _ _ us hl => match us, hl with | [_, _], _ => rfl⟩
      rcases Nat.lt_or_ge f 21 with q | q
      · obtain rfl : f = 20 := by omega
        cases hd
        have Fu := L2.fun_mk (x := "_law_right") (qual := "_law_right") (st := top 27) l20 c20 k20
        exact ⟨Fu, PySem.W.mg_of X G a20, Fu.binds (ps := ["_law_world_so", "_law_thing"]) fun _ _ _ _ _ _ us hl => match us, hl with | [_, _], _ => rfl⟩
      have q : f < 22 := hlt
      · obtain rfl : f = 21 := by omega
        cases hd
        have Fu := L2.fun_mk (x := "law") (qual := "law") (st := top 28) l21 c21 k21
        exact ⟨Fu, PySem.W.mg_of X G a21, Fu.binds (ps := ["_law_script"]) fun _ _ _ _ _ _ us hl => match us, hl with | [_], _ => rfl⟩
    blt := by
      intro x hx
      simp only [lw, List.mem_cons, List.not_mem_nil, or_false] at hx
      rcases hx with rfl | rfl | rfl | rfl | rfl | rfl | rfl | rfl | rfl | rfl | rfl | rfl | rfl
      · exact PySem.W.mg_none_of X G z0
      · exact PySem.W.mg_none_of X G z1
      · exact PySem.W.mg_none_of X G z2
      · exact PySem.W.mg_none_of X G z3
      · exact PySem.W.mg_none_of X G z4
      · exact PySem.W.mg_none_of X G z5
      · exact PySem.W.mg_none_of X G z6
      · exact PySem.W.mg_none_of X G z7
      · exact PySem.W.mg_none_of X G z8
      · exact PySem.W.mg_none_of X G z9
      · exact PySem.W.mg_none_of X G z10
      · exact PySem.W.mg_none_of X G z11
      · exact PySem.W.mg_none_of X G z12
    cst := by
      intro c x hc
      have hlt : c < 1 := (List.getElem?_eq_some_iff.mp hc).1
      have q : c < 1 := hlt
      · obtain rfl : c = 0 := by omega
        cases hc
        exact ⟨_, .int 100000000000000000000000000000000, PySem.W.mg_of X G ca0, ⟨_, rfl⟩, fun _ _ _ => Rep.int_⟩
    exc := by
      intro c x hc
      have hlt : c < 2 := (List.getElem?_eq_some_iff.mp hc).1
      rcases Nat.lt_or_ge c 1 with q | q
      · obtain rfl : c = 0 := by omega
        cases hc
        exact ⟨_, _, _, _, PySem.F.excBase_ValueError, xp0, PySem.W.mg_of X G xa0, xk0, xb0, xt0⟩
      have q : c < 2 := hlt
      · obtain rfl : c = 1 := by omega
        cases hc
        exact ⟨_, _, _, _, PySem.F.excBase_ValueError, xp1, PySem.W.mg_of X G xa1, xk1, xb1, xt1⟩
  }
  refine ⟨F.fdOf 21, fun s v => .of_eq rfl, fun base _ _ => ?_⟩
  exact law_ok F lw_tab lw_ok 40 21 (lw.ds.getD 21 ⟨"", top 0, [], [], fd_law⟩) rfl rfl law_runs
theorem walk {l : PySem.W.OpenLaw} {q : Program} {loose : List Str} {XP : (Str → Option Value) → Heap → Prop} {YP : World → Heap → Prop} {d : DefRec} {K : Params → PySem.W.Frag} (hn : l.most = some 63) (hdf : d.params.defaults = [])
    (hY : ∀ (w : World) (h : Heap), YP w h → (K w.params).In h)
    (F : ∀ (w : World) (mg : Str → Option Value) (fa : Addr) (h : Heap), (K w.params).In h → h.Ns mainGlobals mg → mg d.name = some (.ref fa) →
      ∃ fd : FuncData, (∀ (s : Shared) (u : Value), BindsTo s fd ⟨[u], []⟩ [("_law_script", u)]) ∧ ∀ base : Heap, (K w.params).In base → base.Ns mainGlobals mg → FnOk l.prog w (K w.params) mg base (L2.CX l.prog w) 40 fa fd ["_law_script"] (spLaw (K w.params))) :
    PySem.W.WalkO q loose XP YP l.row.toRowW d [] (fun f vs => PySem.call f vs) :=
  L2.walk_of (n := 63) (k := 40) (x := "_law_script") (CX := fun w => L2.CX l.prog w) (sp := fun w => spLaw (K w.params)) hn (by decide) hdf ⟨rfl, by decide, by decide⟩ hY F (fun _ _ a ns hl _ hS => ⟨a, ns, rfl, hS, hl, fun _ => rfl⟩) fun _ _ _ _ _ z => by
    obtain ⟨_, _, _, _, _, _, _, _, _, _, _, _, z⟩ := z
    exact z
end Fw
open PySem PySem.W PyProof.Rows
set_option maxRecDepth 100000 in
set_option maxHeartbeats 0 in
theorem PySem.Challenge.cw_fencewatch_k01_watchers_and_worlds_recog_holds : PySem.Challenge.rw_fencewatch_k01_watchers_and_worlds_recog.Holds := by
  w_on; o_law; k_head; (case hw => w_witness2)
  k_fill
  refine Fw.walk (l := PySem.Challenge.rw_fencewatch_k01_watchers_and_worlds_recog) rfl rfl (fun w h Y => PySem.W.kIn_of Y) ?F
  case F =>
    intro w mg fa h KX G hmg
    refine' Fw.all_mk KX G hmg ?a0 ?l0 ?c0 ?k0 ?a1 ?l1 ?c1 ?k1 ?a2 ?l2 ?c2 ?k2 ?a3 ?l3 ?c3 ?k3 ?a4 ?l4 ?c4 ?k4 ?a5 ?l5 ?c5 ?k5 ?a6 ?l6 ?c6 ?k6 ?a7 ?l7 ?c7 ?k7 ?a8 ?l8 ?c8 ?k8 ?a9 ?l9 ?c9 ?k9 ?a10 ?l10 ?c10 ?k10 ?a11 ?l11 ?c11 ?k11 ?a12 ?l12 ?c12 ?k12 ?a13 ?l13 ?c13 ?k13 ?a14 ?l14 ?c14 ?k14 ?a15 ?l15 ?c15 ?k15 ?a16 ?l16 ?c16 ?k16 ?a17 ?l17 ?c17 ?k17 ?a18 ?l18 ?c18 ?k18 ?a19 ?l19 ?c19 ?k19 ?a20 ?l20 ?c20 ?k20 ?a21 ?l21 ?c21 ?k21 ?xa0 ?xp0 ?xk0 ?xb0 ?xt0 ?xa1 ?xp1 ?xk1 ?xb1 ?xt1 ?ca0 ?z0 ?z1 ?z2 ?z3 ?z4 ?z5 ?z6 ?z7 ?z8 ?z9 ?z10 ?z11 ?z12
    (case a0 => k_is)
    (case l0 => k_is)
    (case c0 => k_is)
    (case k0 => k_is)
    (case a1 => k_is)
    (case l1 => k_is)
    (case c1 => k_is)
    (case k1 => k_is)
    (case a2 => k_is)
    (case l2 => k_is)
    (case c2 => k_is)
    (case k2 => k_is)
    (case a3 => k_is)
    (case l3 => k_is)
    (case c3 => k_is)
    (case k3 => k_is)
    (case a4 => k_is)
    (case l4 => k_is)
    (case c4 => k_is)
    (case k4 => k_is)
    (case a5 => k_is)
    (case l5 => k_is)
    (case c5 => k_is)
    (case k5 => k_is)
    (case a6 => k_is)
    (case l6 => k_is)
    (case c6 => k_is)
    (case k6 => k_is)
    (case a7 => k_is)
    (case l7 => k_is)
    (case c7 => k_is)
    (case k7 => k_is)
    (case a8 => k_is)
    (case l8 => k_is)
    (case c8 => k_is)
    (case k8 => k_is)
    (case a9 => k_is)
    (case l9 => k_is)
    (case c9 => k_is)
    (case k9 => k_is)
    (case a10 => k_is)
    (case l10 => k_is)
    (case c10 => k_is)
    (case k10 => k_is)
    (case a11 => k_is)
    (case l11 => k_is)
    (case c11 => k_is)
    (case k11 => k_is)
    (case a12 => k_is)
    (case l12 => k_is)
    (case c12 => k_is)
    (case k12 => k_is)
    (case a13 => k_is)
    (case l13 => k_is)
    (case c13 => k_is)
    (case k13 => k_is)
    (case a14 => k_is)
    (case l14 => k_is)
    (case c14 => k_is)
    (case k14 => k_is)
    (case a15 => k_is)
    (case l15 => k_is)
    (case c15 => k_is)
    (case k15 => k_is)
    (case a16 => k_is)
    (case l16 => k_is)
    (case c16 => k_is)
    (case k16 => k_is)
    (case a17 => k_is)
    (case l17 => k_is)
    (case c17 => k_is)
    (case k17 => k_is)
    (case a18 => k_is)
    (case l18 => k_is)
    (case c18 => k_is)
    (case k18 => k_is)
    (case a19 => k_is)
    (case l19 => k_is)
    (case c19 => k_is)
    (case k19 => k_is)
    (case a20 => k_is)
    (case l20 => k_is)
    (case c20 => k_is)
    (case k20 => k_is)
    (case a21 => k_is)
    (case l21 => k_is)
    (case c21 => k_is)
    (case k21 => k_is)
    (case xa0 => k_is)
    (case xp0 => k_exc)
    (case xk0 => k_is)
    (case xb0 => k_is)
    (case xt0 => k_is)
    (case xa1 => k_is)
    (case xp1 => k_exc)
    (case xk1 => k_is)
    (case xb1 => k_is)
    (case xt1 => k_is)
    (case ca0 => k_is)
    (case z0 => k_is)
    (case z1 => k_is)
    (case z2 => k_is)
    (case z3 => k_is)
    (case z4 => k_is)
    (case z5 => k_is)
    (case z6 => k_is)
    (case z7 => k_is)
    (case z8 => k_is)
    (case z9 => k_is)
    (case z10 => k_is)
    (case z11 => k_is)
    (case z12 => k_is)
