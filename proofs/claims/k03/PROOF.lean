import PyProof.Rows.All
import HandS.EndTab
import HandS.ExcIs
import Wide.All
import OpenK.AllK
import Wide.FinOn
import HandS.ForMost
import HandS.Exc
import HandS.WordsExc
import KE.DataEq
import HandS.Flow
import HandS.Style
import HandS.TupAny
import HandS.TupMul
import HandS.IsInst
import HandS.Zip0
import HandS.Zip
import HandS.Walk
import HandS.TryMany
import HandS.Lambda
import HandS.CallLocal
import HandS.Conv
import PySem.Challenge.RW_fencewatch_k03_walks_and_what_looks_tell
set_option Elab.async false
set_option linter.all false
set_option maxRecDepth 100000
set_option maxHeartbeats 4000000

namespace Fw
open PySem L2 PyProof.Rows

inductive T where
  | non | bl (b : Bool) | int (i : Int) | str (s : Str)
  | tup (l : List T) | lst (l : List T)
  | box (n : Nat) | fn (n : Nat) | scr (l : List Int)

instance : Inhabited T := ⟨.non⟩

inductive Ob where
  | lst (l : List T)
  | dct (l : List (T × T))
  | ins (c : Nat) (fs : List (Nat × T))

abbrev Sto := List Ob
abbrev Rho := List (Option T)

/-- what the walk knows of the run: the written part, the defs', the errors' and the classes' addresses -/
structure GW where
  K : PySem.W.Frag
  fa : Nat → Addr
  ea : Nat → Addr
  fb : List Addr
  T : List (Addr × Str)
/-- with other lists under way -/
def GW.w (g : GW) (fb : List Addr) : GW := ⟨g.K, g.fa, g.ea, fb, g.T⟩

/-- a tuple that the written part holds -/
def KTup (K : PySem.W.Frag) (a : Addr) (xs : List V) : Prop :=
  ∃ (o : Obj) (its : Array Value) (n : Nat), K.lookup a = some o ∧ o.cls = .type "tuple" ∧ o.data = .seq its n ∧ its.size ≤ sizeLine ∧ Vals xs its.toList

/-- a list that the written part holds -/
def KLst (K : PySem.W.Frag) (a : Addr) (xs : List V) : Prop :=
  ∃ (o : Obj) (its : Array Value) (n : Nat), K.lookup a = some o ∧ o.cls = .type "list" ∧ o.dict = none ∧ o.data = .seq its n ∧ its.size ≤ sizeLine ∧ Vals xs its.toList

mutual
def Rep (g : GW) (m : List Addr) (H : Hp) : T → V → Prop
  | .non, v => v = .non
  | .bl b, v => v = .bl b
  | .int i, v => v = .int i
  | .str s, v => v = .str s
  | .fn f, v => v = .ref (g.fa f)
  | .box n, v => ∃ a, m[n]? = some a ∧ v = .ref a
  | .scr ns, v => ∃ a, v = .ref a ∧ ((a ∉ m ∧ a ∉ g.fb ∧ Rd H a (.lst (ns.map V.int))) ∨ KLst g.K a (ns.map V.int))
  | .tup l, v => ∃ a vs, v = .ref a ∧ ((a ∉ m ∧ a ∉ g.fb ∧ Rd H a (.tup vs)) ∨ KTup g.K a vs) ∧ RepL g m H l vs
  | .lst l, v => ∃ a vs, v = .ref a ∧ a ∉ m ∧ a ∉ g.fb ∧ H a = some (.lst vs) ∧ RepL g m H l vs
def RepL (g : GW) (m : List Addr) (H : Hp) : List T → List V → Prop
  | [], vs => vs = []
  | t :: ts, vs => ∃ v r, vs = v :: r ∧ Rep g m H t v ∧ RepL g m H ts r
end

/-- no table of code objects: those may grow at any time -/
def NT (o : HO) : Prop := ∀ ps, o ≠ .tbl ps
def Re (H : Hp) (a : Addr) : Prop := ∃ o, H a = some o ∧ NT o
structure Ext (m : List Addr) (H : Hp) (m' : List Addr) (H' : Hp) : Prop where
  grow : ∃ l, m' = m ++ l ∧ ∀ a ∈ l, ¬ Re H a
  keepN : ∀ a o, H a = some o → NT o → a ∉ m → H' a = some o
  there : ∀ a, a ∈ m → Re H a → Re H' a
theorem Ext.keep {m m' : List Addr} {H H' : Hp} (e : Ext m H m' H') (a : Addr) (o : HO) (h : H a = some o) (hm : a ∉ m) (hn : NT o := by intro ps q; cases q) : H' a = some o := e.keepN a o h hn hm

theorem Ext.refl (m : List Addr) (H : Hp) : Ext m H m H := ⟨⟨[], by simp, by simp⟩, fun _ _ h _ _ => h, fun _ _ h => h⟩
theorem Ext.notin {m m' : List Addr} {H H' : Hp} (e : Ext m H m' H') {a : Addr} {o : HO} (h : H a = some o) (hm : a ∉ m) (hn : NT o := by intro ps q; cases q) : a ∉ m' := by
  obtain ⟨l, rfl, hl⟩ := e.grow
  intro q
  rcases List.mem_append.mp q with q | q
  · exact hm q
  · exact hl a q ⟨o, h, hn⟩
theorem Ext.trans {m m1 m2 : List Addr} {H H1 H2 : Hp} (a : Ext m H m1 H1) (b : Ext m1 H1 m2 H2) : Ext m H m2 H2 := by
  obtain ⟨l1, e1, f1⟩ := a.grow
  obtain ⟨l2, e2, f2⟩ := b.grow
  refine ⟨⟨l1 ++ l2, by rw [e2, e1, List.append_assoc], fun x hx => ?_⟩, fun x o hx hn hm => b.keepN x o (a.keepN x o hx hn hm) hn (a.notin hx hm hn), fun x hx hn => b.there x ?_ (a.there x hx hn)⟩
  · rcases List.mem_append.mp hx with q | q
    · exact f1 x q
    · rintro ⟨o, e, hn⟩
      refine f2 x q ?_
      by_cases hm : x ∈ m
      · exact a.there x hm ⟨o, e, hn⟩
      · exact ⟨o, a.keepN x o e hn hm, hn⟩
  · rw [e1]; exact List.mem_append_left _ hx

theorem Ext.get {m m' : List Addr} {H H' : Hp} (e : Ext m H m' H') {n : Nat} {a : Addr} (h : m[n]? = some a) : m'[n]? = some a := by
  obtain ⟨l, rfl, _⟩ := e.grow
  obtain ⟨h1, h2⟩ := List.getElem?_eq_some_iff.mp h
  rw [List.getElem?_append_left h1]
  exact h
theorem Rd.ext {m m' : List Addr} {H H' : Hp} (e : Ext m H m' H') {a : Addr} {u : HO} (h : Rd H a u) (hm : a ∉ m) (hn : NT u := by intro ps q; cases q) : a ∉ m' ∧ Rd H' a u := by
  rcases h with h | ⟨o, h⟩
  · exact ⟨e.notin h hm hn, .inl (e.keep _ _ h hm hn)⟩
  · exact ⟨e.notin h hm, .inr ⟨o, e.keep _ _ h hm⟩⟩

mutual
theorem Rep.mono {g : GW} {m m' : List Addr} {H H' : Hp} (e : Ext m H m' H') : ∀ (t : T) {v : V}, Rep g m H t v → Rep g m' H' t v
  | .non, v, h => by simpa only [Rep] using h
  | .bl b, v, h => by simpa only [Rep] using h
  | .int i, v, h => by simpa only [Rep] using h
  | .str s, v, h => by simpa only [Rep] using h
  | .fn f, v, h => by simpa only [Rep] using h
  | .box n, v, h => by
    simp only [Rep] at h ⊢
    obtain ⟨a, h1, h2⟩ := h
    exact ⟨a, e.get h1, h2⟩
  | .scr ns, v, h => by
    simp only [Rep] at h ⊢
    obtain ⟨a, h1, h2⟩ := h
    refine ⟨a, h1, ?_⟩
    rcases h2 with ⟨q, q', r⟩ | h2
    · exact .inl ⟨(Rd.ext e r q).1, q', (Rd.ext e r q).2⟩
    · exact .inr h2
  | .tup l, v, h => by
    simp only [Rep] at h ⊢
    obtain ⟨a, vs, h1, h2, h3⟩ := h
    refine ⟨a, vs, h1, ?_, RepL.mono e l h3⟩
    rcases h2 with ⟨q, q', r⟩ | h2
    · exact .inl ⟨(Rd.ext e r q).1, q', (Rd.ext e r q).2⟩
    · exact .inr h2
  | .lst l, v, h => by
    simp only [Rep] at h ⊢
    obtain ⟨a, vs, h1, h2, h2', h3, h4⟩ := h
    exact ⟨a, vs, h1, e.notin h3 h2, h2', e.keep _ _ h3 h2, RepL.mono e l h4⟩
theorem RepL.mono {g : GW} {m m' : List Addr} {H H' : Hp} (e : Ext m H m' H') : ∀ (ts : List T) {vs : List V}, RepL g m H ts vs → RepL g m' H' ts vs
  | [], vs, h => by simpa only [RepL] using h
  | t :: ts, vs, h => by
    simp only [RepL] at h ⊢
    obtain ⟨v, r, h1, h2, h3⟩ := h
    exact ⟨v, r, h1, Rep.mono e t h2, RepL.mono e ts h3⟩
end
end Fw

namespace Fw
open PySem L2 PyProof.Rows

/-! ### the small language that a def's text is held against -/
inductive Tg where
  | nm (i : Nat) | nl | cn (a b : Tg) | tp (a : Tg)

inductive Bl where
  | len | abs | int | bool | str | max | min | all | tuple | list

inductive Mt where
  | upper | split | join

inductive IE where
  | lit (v : T) | var (i : Nat) | cst (c : Nat)
  | nil | cons (a b : IE) | tup (es : IE) | lst (bx : Bool) (es : IE)
  | op (bx : Bool) (o : Operator) (a b : IE) | cmp (o : CmpOp) (a b : IE) | chn (o o' : CmpOp) (a b c : IE)
  | neg (a : IE) | not (a : IE) | and (a b : IE) | or (a b : IE) | ite (c a b : IE)
  | ix (a b : IE) | sl (bx : Bool) (a lo hi : IE) | rev (bx : Bool) (a : IE)
  | call (f : Nat) (es : IE) | callL (f : Nat) (es : IE) | callv (i : Nat) (es : IE) | callvL (i : Nat) (es : IE) | blt (bx : Bool) (b : Bl) (es : IE) | isi (a : IE) (ty : String) | mt0 (m : Mt) (o : IE) | mt1 (m : Mt) (o e : IE)
  | lc (bx : Bool) (own : List Nat) (elt : IE) (tg : Tg) (src cnd : IE)
  | sq (a : IE) | rg1 (a : IE) | rg2 (a b : IE) | zp (a b : IE) | en (a : IE)
  | lam (f : Nat) (e : IE) | lrg (bx : Bool) (a b : IE)

inductive IS where
  | skip | seq (a b : IS)
  | pass | brk | cnt | ret (e : IE) | expr (e : IE)
  | asg (tg : Tg) (e : IE) | par2 (i j : Nat) (es : IE) | par3 (i j k : Nat) (es : IE) | sub (o i e : IE) | app (o e : IE)
  | iff (c : IE) (a b : IS) | for_ (tg : Tg) (src : IE) (b : IS) | whl (c : IE) (b : IS)
  | rs (c : Nat)

def part (nl : Bool) (t : T) : Option (Option Int) := if nl then some none else match t with
  | .int i => some (some i)
  | _ => none
def isNil : IE → Bool
  | .nil => true
  | _ => false

inductive Out where
  | ok (t : T) (S : Sto) | ex (c : Nat) (p : Option T) (S : Sto)
abbrev Res := Option Out
inductive OutS where
  | nx (r : Rho) (S : Sto) | rt (t : T) (S : Sto) | bk (r : Rho) (S : Sto) | ct (r : Rho) (S : Sto) | ex (c : Nat) (p : Option T) (r : Rho) (S : Sto)
abbrev ResS := Option OutS

structure EV where
  call : Nat → List T → Sto → Res
  callL : Nat → List T → Sto → Res
  cv : Nat → T
  lam : Nat → Option (List (Nat × T) × T)
  wf : Nat

@[inline] def bnd (r : Res) (k : T → Sto → Res) : Res := match r with
  | some (.ok t S) => k t S
  | some (.ex c p S) => some (.ex c p S)
  | none => none

@[inline] def bndS (r : Res) (ρ : Rho) (k : T → Sto → ResS) : ResS := match r with
  | some (.ok t S) => k t S
  | some (.ex c p S) => some (.ex c p ρ S)
  | none => none

def line : Nat := 16777216

/-! ### values -/
def drf (S : Sto) (t : T) : T := match t with
  | .box n => match S[n]? with
    | some (.lst l) => .lst l
    | _ => t
  | _ => t

mutual
def toD : T → Option PyData
  | .non => some .none
  | .bl b => some (.bool b)
  | .int i => some (.int i)
  | .str s => some (.str s)
  | .tup l => match toDs l with | some ds => some (.tuple ds) | none => none
  | .lst l => match toDs l with | some ds => some (.list ds) | none => none
  | _ => none
def toDs : List T → Option (List PyData)
  | [] => some []
  | t :: ts => match toD t with
    | some d => match toDs ts with | some ds => some (d :: ds) | none => none
    | none => none
end

def shal (d e : PyData) : Bool := decide (min d.depth e.depth ≤ 60)

def eqT (x y : T) : Option Bool := match toD x with
  | some d => match toD y with
    | some e => if shal d e then some (PyData.eqv d e) else none
    | none => none
  | none => none

def inT (x : T) (l : List T) : Option Bool := match toD x with
  | some d => match toDs l with
    | some es => if decide (d.depth ≤ 60) then some (es.any fun z => PyData.eqv z d) else none
    | none => none
  | none => none

def truthy (S : Sto) (t : T) : Option Bool := match t with
  | .non => some false
  | .bl b => some b
  | .int i => some (i != 0)
  | .str s => if s.length ≤ line then some (s.length != 0) else none
  | .tup l => some (!l.isEmpty)
  | .lst l => some (!l.isEmpty)
  | .box n => match S[n]? with
    | some (.lst l) => some (!l.isEmpty)
    | _ => none
  | _ => none

def small64 (i : Int) : Bool := decide (-(2 ^ 64) < i) && decide (i < 2 ^ 64)

def bop (o : Operator) (x y : T) : Option T := match o, x, y with
  | .Add, .int i, .int j => some (.int (i + j))
  | .Add, .str a, .str b => if a.length + b.length ≤ line then some (.str (a ++ b)) else none
  | .Add, .tup a, .tup b => if a.length + b.length ≤ line then some (.tup (a ++ b)) else none
  | .Add, .lst a, .lst b => if a.length + b.length ≤ line then some (.lst (a ++ b)) else none
  | .Sub, .int i, .int j => some (.int (i - j))
  | .Mult, .int i, .int j => if small64 i || small64 j then some (.int (i * j)) else none
  | .Mult, .tup a, .int k => if !a.isEmpty && decide (2 ≤ k) && decide (k ≤ 1000) && decide (a.length ≤ 1000) then some (.tup (List.replicate k.toNat a).flatten) else none
  | .FloorDiv, .int i, .int j => if decide (0 < j) && decide (j < 1073741824) then some (.int (i / j)) else none
  | .Mod, .int i, .int j => if decide (0 < j) then some (.int (i % j)) else none
  | .Pow, .int i, .int j => if decide (0 ≤ j) && decide (j ≤ 1000000) && decide (i.natAbs < 2 ^ 64) then some (.int (i ^ j.toNat)) else none
  | .Add, .bl p, .int j => some (.int ((if p = true then (1 : Int) else 0) + j))
  | .Sub, .bl p, .int j => some (.int ((if p = true then (1 : Int) else 0) - j))
  | _, _, _ => none
def negT : T → Option T
  | .int i => some (.int (-i))
  | .bl p => some (.int (-(if p = true then (1 : Int) else 0)))
  | _ => none

def cop (S : Sto) (o : CmpOp) (x y : T) : Option Bool := match o with
  | .Eq => eqT (drf S x) (drf S y)
  | .NotEq => match eqT (drf S x) (drf S y) with | some b => some (!b) | none => none
  | .Lt => match x, y with | .int i, .int j => some (decide (i < j)) | _, _ => none
  | .LtE => match x, y with | .int i, .int j => some (decide (i ≤ j)) | _, _ => none
  | .Gt => match x, y with | .int i, .int j => some (decide (j < i)) | _, _ => none
  | .GtE => match x, y with | .int i, .int j => some (decide (j ≤ i)) | _, _ => none
  | .Is => match y with | .non => (match x with | .non => some true | _ => some false) | .bl b => (match x with | .bl a => some (decide (a = b)) | _ => none) | _ => none
  | .IsNot => match y with | .non => (match x with | .non => some false | _ => some true) | .bl b => (match x with | .bl a => some (!decide (a = b)) | _ => none) | _ => none
  | .In => match drf S y with
    | .tup l => inT (drf S x) l
    | .lst l => inT (drf S x) l
    | .str b => (match x with | .str a => some (!(Builtin.Str.occurrences b a 0 b.length 1).isEmpty) | _ => none)
    | _ => none
  | .NotIn => match drf S y with
    | .tup l => (match inT (drf S x) l with | some b => some (!b) | none => none)
    | .lst l => (match inT (drf S x) l with | some b => some (!b) | none => none)
    | .str b => (match x with | .str a => some (!(!(Builtin.Str.occurrences b a 0 b.length 1).isEmpty)) | _ => none)
    | _ => none

def cutL (xs : List T) (lo hi : Option Int) : List T := (xs.drop (HT.sIx xs.length 0 lo)).take (HT.sIx xs.length xs.length hi - HT.sIx xs.length 0 lo)

def ixT (S : Sto) (x i : T) : Option T := match drf S x, i with
  | .tup l, .int k => atI l k
  | .lst l, .int k => atI l k
  | .scr l, .int k => match atI l k with | some z => some (.int z) | none => none
  | .str z, .int k => if z.length ≤ line then (match atI z.cps.toList k with | some c => some (.str ⟨#[c]⟩) | none => none) else none
  | _, _ => none

def slT (S : Sto) (x : T) (lo hi : Option Int) : Option T := match drf S x with
  | .tup l => some (.tup (cutL l lo hi))
  | .lst l => some (.lst (cutL l lo hi))
  | .str z => if z.length ≤ line then some (.str (cutS z lo hi)) else none
  | _ => none

def revT (S : Sto) (x : T) : Option T := match drf S x with
  | .tup l => some (.tup l.reverse)
  | .lst l => some (.lst l.reverse)
  | _ => none

def boolsOf : List T → Option (List Bool)
  | [] => some []
  | .bl b :: r => match boolsOf r with | some l => some (b :: l) | none => none
  | _ :: _ => none
def intsOf : List T → Option (List Int)
  | [] => some []
  | .int b :: r => match intsOf r with | some l => some (b :: l) | none => none
  | _ :: _ => none
def strsOf : List T → Option (List Str)
  | [] => some []
  | .str b :: r => match strsOf r with | some l => some (b :: l) | none => none
  | _ :: _ => none

def maxI : Int → List Int → Int
  | a, [] => a
  | a, b :: r => maxI (if b > a then b else a) r
def minI : Int → List Int → Int
  | a, [] => a
  | a, b :: r => minI (if b < a then b else a) r

def bltT (S : Sto) (b : Bl) (ts : List T) : Option T := match b, ts with
  | .len, [x] => (match drf S x with
    | .tup l => some (.int l.length)
    | .lst l => some (.int l.length)
    | .scr l => some (.int l.length)
    | .str z => if z.length ≤ line then some (.int z.length) else none
    | _ => none)
  | .abs, [.int i] => some (.int (if i < 0 then -i else i))
  | .int, [.int i] => some (.int i)
  | .int, [.bl k] => some (.int (if k then 1 else 0))
  | .int, [.str a] => if a.length ≤ 640 then (match PySem.intText? a with | some n => some (.int n) | none => none) else none
  | .bool, [.int i] => some (.bl (i != 0))
  | .bool, [.bl k] => some (.bl k)
  | .str, [.int i] => if i.natAbs.log2 < 1920 then some (.str (Str.ofString (toString i))) else none
  | .max, [.int i, .int j] => some (.int (if j > i then j else i))
  | .min, [.int i, .int j] => some (.int (if j < i then j else i))
  | .max, [x] => (match drf S x with | .lst l => (match intsOf l with | some (a :: r) => some (.int (maxI a r)) | _ => none) | _ => none)
  | .min, [x] => (match drf S x with | .lst l => (match intsOf l with | some (a :: r) => some (.int (minI a r)) | _ => none) | _ => none)
  | .all, [x] => (match drf S x with | .lst l => (match boolsOf l with | some l => some (.bl (l.all id)) | _ => none) | _ => none)
  | .tuple, [x] => (match drf S x with
    | .tup l => some (.tup l)
    | .lst l => some (.tup l)
    | _ => none)
  | .list, [x] => (match drf S x with
    | .tup l => some (.lst l)
    | .lst l => some (.lst l)
    | _ => none)
  | _, _ => none

def mt0T (m : Mt) (o : T) : Option T := match m, o with
  | .upper, .str a => if a.length ≤ 5592405 then some (.str (Txt.upper a)) else none
  | _, _ => none
def mt1T (S : Sto) (m : Mt) (a : Str) (x : T) : Option T := match m with
  | .split => (match x with
    | .str b => if (b.length == 0) = false ∧ a.length + 2 ≤ line then some (.lst ((Txt.split a b).map .str)) else none
    | _ => none)
  | .join => (match drf S x with
    | .lst l => (match strsOf l with | some ys => if (ys.map (·.length)).sum + ys.length * a.length ≤ line then some (.str (Txt.join a ys)) else none | none => none)
    | .tup l => (match strsOf l with | some ys => if (ys.map (·.length)).sum + ys.length * a.length ≤ line then some (.str (Txt.join a ys)) else none | none => none)
    | _ => none)
  | _ => none

def tyT (S : Sto) (t : T) : Option String := match t with
  | .non => some "NoneType"
  | .bl _ => some "bool"
  | .int _ => some "int"
  | .str _ => some "str"
  | .tup _ => some "tuple"
  | .lst _ => some "list"
  | .box n => match S[n]? with
    | some (.lst _) => some "list"
    | _ => none
  | _ => none

def isiT (S : Sto) (t : T) (ty : String) : Option Bool := match tyT S t with
  | some a => some (a == ty || (a == "bool" && ty == "int"))
  | none => none

/-- a new list: a tree, or a box -/
def newL (bx : Bool) (t : T) (S : Sto) : Out := match t with
  | .lst l => if bx then .ok (.box S.length) (S ++ [.lst l]) else .ok t S
  | _ => .ok t S

def lift (bx : Bool) (r : Option T) (S : Sto) : Res := match r with
  | some t => some (newL bx t S)
  | none => none
def liftB (r : Option Bool) (S : Sto) : Res := match r with
  | some b => some (.ok (.bl b) S)
  | none => none

def strT (t : T) (k : Str → Res) : Res := match t with
  | .str a => k a
  | _ => none
def tups (t : T) (k : List T → Res) : Res := match t with
  | .tup l => k l
  | _ => none

/-! ### targets, loops -/
def bindT : Tg → T → Rho → Option Rho
  | .nm i, t, ρ => some (ρ.set i (some t))
  | .nl, .tup [], ρ => some ρ
  | .cn a b, .tup (x :: xs), ρ => match bindT a x ρ with | some ρ' => bindT b (.tup xs) ρ' | none => none
  | .tp a, .tup l, ρ => bindT a (.tup l) ρ
  | _, _, _ => none

def wipeR (ρ : Rho) : List Nat → Rho
  | [] => ρ
  | v :: vs => (wipeR ρ vs).set v none

/-- a comprehension's turns: b the test and the element -/
def lcL (g : T → Sto → Option (Option T × Sto)) : List T → List T → Sto → Option (List T × Sto)
  | [], acc, S => some (acc, S)
  | x :: xs, acc, S => match g x S with
    | some (some y, S') => if acc.length < line then lcL g xs (acc ++ [y]) S' else none
    | some (none, S') => lcL g xs acc S'
    | none => none

def forL (g : T → Rho → Sto → ResS) : List T → Rho → Sto → ResS
  | [], ρ, S => some (.nx ρ S)
  | x :: xs, ρ, S => match g x ρ S with
    | some (.nx ρ' S') => forL g xs ρ' S'
    | some (.ct ρ' S') => forL g xs ρ' S'
    | some (.bk ρ' S') => some (.nx ρ' S')
    | r => r

def whlL (c : Rho → Sto → Res) (g : Rho → Sto → ResS) : Nat → Rho → Sto → ResS
  | 0, _, _ => none
  | n + 1, ρ, S => match c ρ S with
    | some (.ok t S1) => (match truthy S1 t with
      | some true => (match g ρ S1 with
        | some (.nx ρ' S') => whlL c g n ρ' S'
        | some (.ct ρ' S') => whlL c g n ρ' S'
        | some (.bk ρ' S') => some (.nx ρ' S')
        | r => r)
      | some false => some (.nx ρ S1)
      | none => none)
    | some (.ex c p S1) => some (.ex c p ρ S1)
    | none => none

def rngT (lo : Int) (n : Nat) : List T := (List.range n).map fun i => T.int (lo + (i : Nat))
def zipT : List T → List T → List T
  | x :: xs, y :: ys => .tup [x, y] :: zipT xs ys
  | _, _ => []
def enuT : Nat → List T → List T
  | _, [] => []
  | i, x :: xs => .tup [.int (i : Nat), x] :: enuT (i + 1) xs

def okR (i : Int) : Bool := decide (-(2 ^ 62) ≤ i) && decide (i < 2 ^ 62)

def seqT (t : T) : Option (List T) := match t with
  | .tup l => some l
  | .lst l => some l
  | _ => none

def pick (c : Nat) : List (Nat × T) → Option T
  | [] => none
  | (d, t) :: r => if c == d then some t else pick c r

def evE (E : EV) : IE → Rho → Sto → Res
  | .lit v, _, S => some (.ok v S)
  | .var i, ρ, S => (match ρ[i]? with | some (some t) => some (.ok t S) | _ => none)
  | .cst c, _, S => some (.ok (E.cv c) S)
  | .nil, _, S => some (.ok (.tup []) S)
  | .cons a b, ρ, S => bnd (evE E a ρ S) fun x S1 => bnd (evE E b ρ S1) fun y S2 => tups y fun l => some (.ok (.tup (x :: l)) S2)
  | .tup es, ρ, S => bnd (evE E es ρ S) fun x S1 => tups x fun l => if l.length ≤ line then some (.ok (.tup l) S1) else none
  | .lst bx es, ρ, S => bnd (evE E es ρ S) fun x S1 => tups x fun l => if l.length ≤ line then some (newL bx (.lst l) S1) else none
  | .op bx o a b, ρ, S => bnd (evE E a ρ S) fun x S1 => bnd (evE E b ρ S1) fun y S2 => lift bx (bop o (drf S2 x) (drf S2 y)) S2
  | .cmp o a b, ρ, S => bnd (evE E a ρ S) fun x S1 => bnd (evE E b ρ S1) fun y S2 => liftB (cop S2 o x y) S2
  | .chn o o' a b c, ρ, S => bnd (evE E a ρ S) fun x S1 => bnd (evE E b ρ S1) fun y S2 => (match cop S2 o x y with
    | some true => bnd (evE E c ρ S2) fun z S3 => liftB (cop S3 o' y z) S3
    | some false => some (.ok (.bl false) S2)
    | none => none)
  | .neg a, ρ, S => bnd (evE E a ρ S) fun x S1 => (match negT x with | some t => some (.ok t S1) | none => none)
  | .not a, ρ, S => bnd (evE E a ρ S) fun x S1 => (match truthy S1 x with | some b => some (.ok (.bl (!b)) S1) | none => none)
  | .and a b, ρ, S => bnd (evE E a ρ S) fun x S1 => (match truthy S1 x with | some true => evE E b ρ S1 | some false => some (.ok x S1) | none => none)
  | .or a b, ρ, S => bnd (evE E a ρ S) fun x S1 => (match truthy S1 x with | some true => some (.ok x S1) | some false => evE E b ρ S1 | none => none)
  | .ite c a b, ρ, S => bnd (evE E c ρ S) fun x S1 => (match truthy S1 x with | some true => evE E a ρ S1 | some false => evE E b ρ S1 | none => none)
  | .ix a b, ρ, S => bnd (evE E a ρ S) fun x S1 => bnd (evE E b ρ S1) fun y S2 => lift false (ixT S2 x y) S2
  | .sl bx a lo hi, ρ, S => bnd (evE E a ρ S) fun x S1 => bnd (evE E lo ρ S1) fun l S2 => (match part (isNil lo) l with
    | some i => bnd (evE E hi ρ S2) fun h S3 => (match part (isNil hi) h with
      | some j => lift bx (slT S3 x i j) S3
      | none => none)
    | none => none)
  | .rev bx a, ρ, S => bnd (evE E a ρ S) fun x S1 => lift bx (revT S1 x) S1
  | .call f es, ρ, S => bnd (evE E es ρ S) fun x S1 => tups x fun l => E.call f l S1
  | .callL f es, ρ, S => bnd (evE E es ρ S) fun x S1 => tups x fun l => E.callL f l S1
  | .callv i es, ρ, S => (match ρ[i]? with | some (some (.fn f)) => (match evE E es ρ S with | some (.ok (.tup l) S1) => E.call f l S1 | _ => none) | _ => none)
  | .callvL i es, ρ, S => (match ρ[i]? with | some (some (.fn f)) => (match evE E es ρ S with | some (.ok (.tup l) S1) => E.callL f l S1 | _ => none) | _ => none)
  | .blt bx b es, ρ, S => bnd (evE E es ρ S) fun x S1 => tups x fun l => lift bx (bltT S1 b l) S1
  | .isi a ty, ρ, S => bnd (evE E a ρ S) fun x S1 => liftB (isiT S1 x ty) S1
  | .mt0 m o, ρ, S => bnd (evE E o ρ S) fun x S1 => lift false (mt0T m x) S1
  | .mt1 m o e, ρ, S => bnd (evE E o ρ S) fun x S1 => strT x fun a => bnd (evE E e ρ S1) fun y S2 => lift false (mt1T S2 m a y) S2
  | .lc bx own elt tg src cnd, ρ, S => bnd (evE E src ρ S) fun x S1 => tups x fun l =>
      match lcL (fun t S => match bindT tg t (wipeR ρ own) with
        | some ρ' => (match evE E cnd ρ' S with
          | some (.ok c S') => (match truthy S' c with
            | some true => (match evE E elt ρ' S' with | some (.ok y S'') => some (some y, S'') | _ => none)
            | some false => some (none, S')
            | none => none)
          | _ => none)
        | none => none) l [] S1 with
      | some (ys, S2) => some (newL bx (.lst ys) S2)
      | none => none
  | .sq a, ρ, S => bnd (evE E a ρ S) fun x S1 => (match seqT x with | some l => some (.ok (.tup l) S1) | none => none)
  | .rg1 a, ρ, S => bnd (evE E a ρ S) fun x S1 => (match x with | .int j => if okR j then some (.ok (.tup (rngT 0 j.toNat)) S1) else none | _ => none)
  | .rg2 a b, ρ, S => bnd (evE E a ρ S) fun x S1 => bnd (evE E b ρ S1) fun y S2 => (match x, y with
    | .int i, .int j => if okR i && okR j then some (.ok (.tup (rngT i (j - i).toNat)) S2) else none
    | _, _ => none)
  | .zp a b, ρ, S => bnd (evE E a ρ S) fun x S1 => bnd (evE E b ρ S1) fun y S2 => (match x, y with
    | .tup xs, .tup ys => some (.ok (.tup (zipT xs ys)) S2)
    | .lst xs, .lst ys => some (.ok (.tup (zipT xs ys)) S2)
    | _, _ => none)
  | .en a, ρ, S => bnd (evE E a ρ S) fun x S1 => (match x with | .lst l => some (.ok (.tup (enuT 0 l)) S1) | _ => none)
  | .lrg bx a b, ρ, S => bnd (evE E a ρ S) fun x S1 => bnd (evE E b ρ S1) fun y S2 => (match x, y with
    | .int i, .int j => if okR i && okR j && decide ((j - i).toNat ≤ line) then some (newL bx (.lst (rngT i (j - i).toNat)) S2) else none
    | _, _ => none)
  | .lam f e, ρ, S => (match E.lam f with
    | some (hs, r) => (match evE E e ρ S with
      | some (.ok _ S') => some (.ok r S')
      | some (.ex c _ S') => (match pick c hs with | some t => some (.ok t S') | none => none)
      | none => none)
    | none => none)

def isLst (S : Sto) (o : T) : Bool := match o with
  | .box n => match S[n]? with
    | some (.lst _) => true
    | _ => false
  | _ => false
/-- o.append(x), o[i] = x: where o stands -/
def wApp (S : Sto) (o x : T) : Option Sto := match o with
  | .box n => match S[n]? with
    | some (.lst l) => if l.length < line then some (S.set n (.lst (l ++ [x]))) else none
    | _ => none
  | _ => none
def wSub (S : Sto) (o i x : T) : Option Sto := match o, i with
  | .box n, .int k => match S[n]? with
    | some (.lst l) => match ixN l.length k with
      | some j => some (S.set n (.lst (l.set j x)))
      | none => none
    | _ => none
  | _, _ => none

def evS (E : EV) : IS → Rho → Sto → ResS
  | .skip, ρ, S => some (.nx ρ S)
  | .seq a b, ρ, S => (match evS E a ρ S with
    | some (.nx ρ' S') => evS E b ρ' S'
    | r => r)
  | .pass, ρ, S => some (.nx ρ S)
  | .brk, ρ, S => some (.bk ρ S)
  | .cnt, ρ, S => some (.ct ρ S)
  | .ret e, ρ, S => bndS (evE E e ρ S) ρ fun t S' => some (.rt t S')
  | .expr e, ρ, S => bndS (evE E e ρ S) ρ fun _ S' => some (.nx ρ S')
  | .asg tg e, ρ, S => bndS (evE E e ρ S) ρ fun t S' => (match bindT tg t ρ with | some ρ' => some (.nx ρ' S') | none => none)
  | .par2 i j e, ρ, S => bndS (evE E e ρ S) ρ fun t S' => (match t with | .tup [x, y] => some (.nx ((ρ.set i (some x)).set j (some y)) S') | _ => none)
  | .par3 i j k e, ρ, S => bndS (evE E e ρ S) ρ fun t S' => (match t with | .tup [x, y, z] => some (.nx (((ρ.set i (some x)).set j (some y)).set k (some z)) S') | _ => none)
  | .sub o i e, ρ, S => bndS (evE E e ρ S) ρ fun t S1 => bndS (evE E o ρ S1) ρ fun x S2 => bndS (evE E i ρ S2) ρ fun y S3 =>
      (match wSub S3 x y t with | some S4 => some (.nx ρ S4) | none => none)
  | .app o e, ρ, S => bndS (evE E o ρ S) ρ fun x S1 => if isLst S1 x then bndS (evE E e ρ S1) ρ fun t S2 =>
      (match wApp S2 x t with | some S3 => some (.nx ρ S3) | none => none) else none
  | .iff c a b, ρ, S => bndS (evE E c ρ S) ρ fun x S1 => (match truthy S1 x with
    | some true => evS E a ρ S1
    | some false => evS E b ρ S1
    | none => none)
  | .for_ tg src b, ρ, S => bndS (evE E src ρ S) ρ fun x S1 => (match x with
    | .tup l => forL (fun t ρ S => match bindT tg t ρ with | some ρ' => evS E b ρ' S | none => none) l ρ S1
    | _ => none)
  | .whl c b, ρ, S => whlL (fun ρ S => evE E c ρ S) (fun ρ S => evS E b ρ S) E.wf ρ S
  | .rs c, ρ, S => some (.ex c none ρ S)

/-! ### defs -/
structure FD where
  np : Nat
  ns : Nat
  keep : Bool
  body : IS

mutual
def noBx (b : Nat) : T → Bool
  | .box n => decide (n < b)
  | .tup l => noBxL b l
  | .lst l => noBxL b l
  | _ => true
def noBxL (b : Nat) : List T → Bool
  | [] => true
  | t :: ts => noBx b t && noBxL b ts
end
def noBxO (b : Nat) : Ob → Bool
  | .lst l => noBxL b l
  | _ => false

def thaw (b : Nat) (t : T) (S : Sto) : T := match t with
  | .box n => if b ≤ n then (match S[n]? with | some (.lst l) => .lst l | _ => t) else t
  | _ => t

def fin1 (b : Nat) (t : T) (S : Sto) : Out :=
  if S.length ≤ b then .ok t S
  else if noBx b (thaw b t S) && (S.take b).all (noBxO b) then .ok (thaw b t S) (S.take b) else .ok t S

def finE (b : Nat) (c : Nat) (p : Option T) (S : Sto) : Out :=
  if S.length ≤ b then .ex c p S
  else if (S.take b).all (noBxO b) then .ex c p (S.take b) else .ex c p S

def fin (keep : Bool) (b : Nat) (r : ResS) : Res := match r with
  | some (.rt t S) => some (if keep then .ok t S else fin1 b t S)
  | some (.nx _ S) => some (if keep then .ok .non S else fin1 b .non S)
  | some (.ex c p _ S) => some (if keep then .ex c p S else finE b c p S)
  | _ => none

structure Prg where
  tab : Nat → Option FD
  cv : Nat → T
  lam : Nat → Option (List (Nat × T) × T)
  wf : Nat

def init (fd : FD) (ts : List T) : Rho := ts.map some ++ List.replicate (fd.ns - ts.length) none

def body1 (P : Prg) (E : EV) (f : Nat) (ts : List T) (S : Sto) : Res := match P.tab f with
  | some fd => if ts.length == fd.np then fin fd.keep S.length (evS E fd.body (init fd ts) S) else none
  | none => none
def nilC : Nat → List T → Sto → Res := fun _ _ _ => none
/-- a call, n deep at most; a lambda's calls stand two deeper -/
def run (P : Prg) : Nat → Nat → List T → Sto → Res
  | 0 => nilC
  | 1 => body1 P ⟨nilC, nilC, P.cv, fun _ => none, P.wf⟩
  | 2 => body1 P ⟨run P 1, nilC, P.cv, fun _ => none, P.wf⟩
  | n + 3 => body1 P ⟨run P (n + 2), run P n, P.cv, P.lam, P.wf⟩
def run2 (P : Prg) : Nat → Nat → List T → Sto → Res
  | n + 2 => run P n
  | _ => nilC
def lam2 (P : Prg) : Nat → Nat → Option (List (Nat × T) × T)
  | _ + 2 => P.lam
  | _ => fun _ => none
def ev (P : Prg) (n : Nat) : EV := ⟨run P n, run2 P n, P.cv, lam2 P n, P.wf⟩
theorem run_eq (P : Prg) (n : Nat) : run P (n + 1) = body1 P (ev P n) := by
  match n with
  | 0 => rfl
  | 1 => rfl
  | n + 2 => rfl
end Fw

namespace Fw
open PySem L2 PyProof.Rows

/-! ### the store -/
def ObR (g : GW) (m : List Addr) (H : Hp) : Ob → Addr → Prop
  | .lst l, a => ∃ vs, H a = some (.lst vs) ∧ RepL g m H l vs
  | _, _ => False

structure SRep (g : GW) (m : List Addr) (H : Hp) (S : Sto) : Prop where
  len : m.length = S.length
  nd : m.Nodup
  at_ : ∀ (n : Nat) (ob : Ob) (a : Addr), S[n]? = some ob → m[n]? = some a → ObR g m H ob a
  fbs : ∀ a ∈ g.fb, (∃ vs, H a = some (.lst vs)) ∧ a ∉ m
  tab : LamX.Tabs g.T H

theorem ObR.there {g : GW} {m : List Addr} {H : Hp} {ob : Ob} {a : Addr} (h : ObR g m H ob a) : ∃ o, H a = some o := by
  cases ob with
  | lst l => obtain ⟨vs, e, _⟩ := h; exact ⟨_, e⟩
  | dct _ => exact h.elim
  | ins _ _ => exact h.elim

theorem SRep.there {g : GW} {m : List Addr} {H : Hp} {S : Sto} (r : SRep g m H S) {a : Addr} (h : a ∈ m) : ∃ o, H a = some o := by
  obtain ⟨n, hn, e⟩ := List.mem_iff_getElem.mp h
  have h1 : n < S.length := by rw [← r.len]; exact hn
  have e2 : m[n]? = some a := by rw [List.getElem?_eq_getElem hn, e]
  exact (r.at_ n S[n] a (List.getElem?_eq_getElem h1) e2).there

theorem SRep.freshF {g : GW} {m : List Addr} {H : Hp} {S : Sto} (r : SRep g m H S) {a : Addr} (h : H a = none) : a ∉ g.fb := fun q => by
  obtain ⟨vs, e⟩ := (r.fbs a q).1
  rw [h] at e; cases e
theorem Ext.fbs {fb m m' : List Addr} {H H' : Hp} (e : Ext m H m' H') (h : ∀ a ∈ fb, (∃ vs, H a = some (.lst vs)) ∧ a ∉ m) : ∀ a ∈ fb, (∃ vs, H' a = some (.lst vs)) ∧ a ∉ m' := fun a ha => by
  obtain ⟨⟨vs, h1⟩, h2⟩ := h a ha
  exact ⟨⟨vs, e.keep a _ h1 h2⟩, e.notin h1 h2⟩

theorem SRep.fresh {g : GW} {m : List Addr} {H : Hp} {S : Sto} (r : SRep g m H S) {a : Addr} (h : H a = none) : a ∉ m := fun q => by
  obtain ⟨o, e⟩ := r.there q
  rw [h] at e; cases e

/-- a new tracked object -/
theorem Ext.new {m : List Addr} {H : Hp} {p : Addr} {o : HO} (h : H p = none) : Ext m H m (upd H p o) :=
  ⟨⟨[], by simp, by simp⟩, fun a u e _ _ => by rw [upd_ne (ne_of_none e h)]; exact e, fun a _ ⟨u, n, hn⟩ => ⟨u, by rw [upd_ne (ne_of_none n h)]; exact n, hn⟩⟩
/-- .. as a box -/
theorem Ext.box {m : List Addr} {H : Hp} {p : Addr} {o : HO} (h : H p = none) : Ext m H (m ++ [p]) (upd H p o) :=
  ⟨⟨[p], rfl, fun a q => by
    simp only [List.mem_singleton] at q; subst q
    rintro ⟨u, e, _⟩
    rw [h] at e; cases e⟩, fun a u e _ _ => by rw [upd_ne (ne_of_none e h)]; exact e, fun a _ ⟨u, n, hn⟩ => ⟨u, by rw [upd_ne (ne_of_none n h)]; exact n, hn⟩⟩
/-- the tables stay -/
theorem tab_new {T : List (Addr × Str)} {H : Hp} {p : Addr} {o : HO} (t : LamX.Tabs T H) (h : H p = none) : LamX.Tabs T (upd H p o) := t.ext fun b u e => by rw [upd_ne (ne_of_none e h)]; exact e
theorem tab_write {T : List (Addr × Str)} {H : Hp} {p : Addr} {vs vs' : List V} (t : LamX.Tabs T H) (h : H p = some (.lst vs)) : LamX.Tabs T (upd H p (.lst vs')) := fun q hq => by
  obtain ⟨ps, h1, h2, h3⟩ := t q hq
  refine ⟨ps, ?_, h2, fun pos cv hc => ?_⟩
  · rw [upd_ne fun z => by rw [z, h] at h1; cases h1]; exact h1
  · obtain ⟨c, e1, e2⟩ := h3 pos cv hc
    refine ⟨c, e1, ?_⟩
    rw [upd_ne fun z => by rw [z, h] at e2; cases e2]; exact e2

theorem ObR.mono {g : GW} {m m' : List Addr} {H H' : Hp} {ob : Ob} {a : Addr} (e : Ext m H m' H') (h : ObR g m H ob a) (k : H' a = H a) : ObR g m' H' ob a := by
  cases ob with
  | lst l => obtain ⟨vs, e1, r⟩ := h; exact ⟨vs, by rw [k]; exact e1, RepL.mono e l r⟩
  | dct _ => exact h.elim
  | ins _ _ => exact h.elim

/-- a tree is laid: the boxes are as they were -/
theorem SRep.new {g : GW} {m : List Addr} {H : Hp} {S : Sto} (r : SRep g m H S) {p : Addr} {o : HO} (h : H p = none) : SRep g m (upd H p o) S :=
  ⟨r.len, r.nd, fun n ob a h1 h2 => (r.at_ n ob a h1 h2).mono (Ext.new h) (upd_ne fun q => by
    obtain ⟨u, e⟩ := (r.at_ n ob a h1 h2).there
    rw [q, h] at e; cases e), (Ext.new h).fbs r.fbs, tab_new r.tab h⟩

theorem SRep.box {g : GW} {m : List Addr} {H : Hp} {S : Sto} (r : SRep g m H S) {p : Addr} {l : List T} {vs : List V} (h : H p = none) (q : RepL g m H l vs) :
    SRep g (m ++ [p]) (upd H p (.lst vs)) (S ++ [.lst l]) := by
  refine ⟨by simp [r.len], ?_, fun n ob a h1 h2 => ?_, (Ext.box h).fbs r.fbs, tab_new r.tab h⟩
  · refine List.nodup_append.mpr ⟨r.nd, by simp, fun a ha b hb e => ?_⟩
    simp only [List.mem_singleton] at hb
    subst hb; subst e
    exact r.fresh h ha
  · by_cases hn : n < S.length
    · rw [List.getElem?_append_left hn] at h1
      rw [List.getElem?_append_left (by rw [r.len]; exact hn)] at h2
      have z := r.at_ n ob a h1 h2
      exact z.mono (Ext.box h) (upd_ne fun q => by
        obtain ⟨u, e⟩ := z.there
        rw [q, h] at e; cases e)
    · have e1 : n = S.length := by
        have := (List.getElem?_eq_some_iff.mp h1).1
        simp at this
        omega
      subst e1
      rw [List.getElem?_append_right (Nat.le_refl _)] at h1
      rw [List.getElem?_append_right (by rw [r.len]; exact Nat.le_refl _)] at h2
      simp [r.len] at h1 h2
      subst h1; subst h2
      exact ⟨vs, upd_same, RepL.mono (Ext.box h) l q⟩

/-- a box's list is written -/
theorem Ext.write {m : List Addr} {H : Hp} {p : Addr} {o : HO} (h : p ∈ m) (ho : NT o := by intro ps q; cases q) : Ext m H m (upd H p o) :=
  ⟨⟨[], by simp, by simp⟩, fun a u e _ n => by
    rw [upd_ne (fun q => n (by rw [q]; exact h))]; exact e, fun a _ n => by
    by_cases e : a = p
    · subst e; exact ⟨o, upd_same, ho⟩
    · obtain ⟨u, n, hn⟩ := n
      exact ⟨u, by rw [upd_ne e]; exact n, hn⟩⟩
theorem SRep.boxL {g : GW} {m : List Addr} {H : Hp} {S : Sto} (r : SRep g m H S) {p : Addr} (h : p ∈ m) : ∃ vs, H p = some (.lst vs) := by
  obtain ⟨n, hn, e⟩ := List.mem_iff_getElem.mp h
  have h1 : n < S.length := by rw [← r.len]; exact hn
  have z := r.at_ n S[n] p (List.getElem?_eq_getElem h1) (by rw [List.getElem?_eq_getElem hn, e])
  cases q : S[n] with
  | lst l => rw [q] at z; obtain ⟨vs, e, _⟩ := z; exact ⟨vs, e⟩
  | dct _ => rw [q] at z; exact z.elim
  | ins _ _ => rw [q] at z; exact z.elim

theorem SRep.write {g : GW} {m : List Addr} {H : Hp} {S : Sto} (r : SRep g m H S) {k : Nat} {p : Addr} {l : List T} {vs : List V} (h : m[k]? = some p) (q : RepL g m H l vs) :
    SRep g m (upd H p (.lst vs)) (S.set k (.lst l)) := by
  have hp : p ∈ m := List.mem_of_getElem? h
  have hk : k < S.length := by rw [← r.len]; exact (List.getElem?_eq_some_iff.mp h).1
  refine ⟨by simp [r.len], r.nd, fun n ob a h1 h2 => ?_, (Ext.write hp).fbs r.fbs, by
    obtain ⟨ws, e⟩ := r.boxL hp
    exact tab_write r.tab e⟩
  by_cases e : n = k
  · subst e
    rw [List.getElem?_set_self hk] at h1
    cases h1
    rw [h] at h2; cases h2
    exact ⟨vs, upd_same, RepL.mono (Ext.write hp) l q⟩
  · rw [List.getElem?_set_ne (Ne.symm e)] at h1
    have z := r.at_ n ob a h1 h2
    refine z.mono (Ext.write hp) (upd_ne fun q => e ?_)
    subst q
    exact nd_ix r.nd h2 h

/-! ### what a step is to reach -/
def ERep (g : GW) (m : List Addr) (H : Hp) (ρ : Rho) (σ : L2.St) : Prop :=
  σ.length = ρ.length ∧ ∀ (i : Nat) (t : T), ρ[i]? = some (some t) → ∃ v, σ[i]? = some (some v) ∧ Rep g m H t v

theorem ERep.mono {g : GW} {m m' : List Addr} {H H' : Hp} {ρ : Rho} {σ : L2.St} (e : Ext m H m' H') (h : ERep g m H ρ σ) : ERep g m' H' ρ σ :=
  ⟨h.1, fun i t q => let ⟨v, h1, h2⟩ := h.2 i t q; ⟨v, h1, Rep.mono e t h2⟩⟩

theorem ERep.set {g : GW} {m : List Addr} {H : Hp} {ρ : Rho} {σ : L2.St} (h : ERep g m H ρ σ) (i : Nat) {t : T} {v : V} (r : Rep g m H t v) : ERep g m H (ρ.set i (some t)) (σ.set i (some v)) := by
  refine ⟨by simp [h.1], fun j u q => ?_⟩
  by_cases e : i = j
  · subst e
    have hi : i < ρ.length := by
      have := (List.getElem?_eq_some_iff.mp q).1
      simpa using this
    rw [List.getElem?_set_self hi] at q
    simp only [Option.some.injEq] at q
    subst q
    exact ⟨v, List.getElem?_set_self (by rw [h.1]; exact hi), r⟩
  · rw [List.getElem?_set_ne e] at q
    obtain ⟨w, h1, h2⟩ := h.2 j u q
    exact ⟨w, by rw [List.getElem?_set_ne e]; exact h1, h2⟩

theorem ERep.unset {g : GW} {m : List Addr} {H : Hp} {ρ : Rho} {σ : L2.St} (h : ERep g m H ρ σ) (i : Nat) : ERep g m H (ρ.set i none) (σ.set i none) := by
  refine ⟨by simp [h.1], fun j u q => ?_⟩
  by_cases e : i = j
  · subst e
    have hi : i < ρ.length := by
      have := (List.getElem?_eq_some_iff.mp q).1
      simpa using this
    rw [List.getElem?_set_self hi] at q
    cases q
  · rw [List.getElem?_set_ne e] at q
    obtain ⟨w, h1, h2⟩ := h.2 j u q
    exact ⟨w, by rw [List.getElem?_set_ne e]; exact h1, h2⟩

theorem ERep.wipe {g : GW} {m : List Addr} {H : Hp} {ρ : Rho} {σ : L2.St} (h : ERep g m H ρ σ) : ∀ own : List Nat, ERep g m H (wipeR ρ own) (L2.wipe σ own)
  | [] => h
  | v :: vs => by
    show ERep g m H ((wipeR ρ vs).set v none) ((L2.wipe σ vs).set v none)
    exact (ERep.wipe h vs).unset v

structure RS (g : GW) (m : List Addr) (σ : L2.St) (H : Hp) (ρ : Rho) (S : Sto) : Prop where
  env : ERep g m H ρ σ
  sto : SRep g m H S

/-- how an error lies: its class, and the value of its attribute -/
def XRep (g : GW) (H : Hp) (c : Nat) (p : Option T) (cls : Value) (d : Option Addr) : Prop :=
  cls = .ref (g.ea c) ∧ p = none ∧ d = none

def GoodE (g : GW) (W : WX) (m : List Addr) (σ : L2.St) (H : Hp) (Q : VK) : Out → Prop
  | .ok t S' => ∀ v m' H', Ext m H m' H' → SRep g m' H' S' → Rep g m' H' t v → Q v H'
  | .ex c p S' => ∀ cls d m' H', Ext m H m' H' → SRep g m' H' S' → XRep g H' c p cls d → W cls d σ H'

theorem GoodE.ext {g : GW} {W : WX} {m m' : List Addr} {σ : L2.St} {H H' : Hp} {Q : VK} {o : Out} (h : GoodE g W m σ H Q o) (e : Ext m H m' H') : GoodE g W m' σ H' Q o := by
  cases o with
  | ok t S => exact fun v m2 H2 e2 => h v m2 H2 (e.trans e2)
  | ex c p S => exact fun cls d m2 H2 e2 => h cls d m2 H2 (e.trans e2)

/-- an expression's reading, by what it comes to -/
def tE (g : GW) (W : WX) (f : Rho → Sto → Res) : TE := fun σ H Q => ∃ fb m ρ S o, RS (g.w fb) m σ H ρ S ∧ f ρ S = some o ∧ GoodE (g.w fb) W m σ H Q o

/-- the first part of a step -/
theorem tE_bnd {g : GW} {fb : List Addr} {W : WX} {f : Rho → Sto → Res} {k : T → Sto → Res} {m : List Addr} {σ : L2.St} {H : Hp} {ρ : Rho} {S : Sto} {o : Out} {Q R : VK}
    (h : bnd (f ρ S) k = some o) (rs : RS (g.w fb) m σ H ρ S) (G : GoodE (g.w fb) W m σ H Q o)
    (hk : ∀ t S1 v m1 H1, k t S1 = some o → Ext m H m1 H1 → RS (g.w fb) m1 σ H1 ρ S1 → Rep (g.w fb) m1 H1 t v → GoodE (g.w fb) W m1 σ H1 Q o → R v H1) : tE g W f σ H R := by
  cases e : f ρ S with
  | none => rw [e] at h; cases h
  | some r =>
    rw [e] at h
    refine ⟨fb, m, ρ, S, r, rs, e, ?_⟩
    cases r with
    | ok t S1 => exact fun v m1 H1 x sr rp => hk t S1 v m1 H1 h x ⟨rs.env.mono x, sr⟩ rp (G.ext x)
    | ex c p S1 =>
      have : o = .ex c p S1 := (Option.some.inj h).symm
      subst this
      exact G

theorem _root_.L2.PE.of {X : Cx} {e : Expr} {t t' : TE} (h : PE X e t) (i : ∀ σ H Q, t' σ H Q → t σ H Q) : PE X e t' := ⟨fun pins s σ H Q I q => h.run pins s σ H Q I (i σ H Q q)⟩
theorem _root_.L2.PT.of {X : Cx} {e : Expr} {t t' : TT} (h : PT X e t) (i : ∀ σ H Q, t' σ H Q → t σ H Q) : PT X e t' := ⟨fun pins s σ H Q I q => h.run pins s σ H Q I (i σ H Q q)⟩
theorem _root_.L2.PA.of {X : Cx} {e : List Expr} {t t' : TA} (h : PA X e t) (i : ∀ σ H Q, t' σ H Q → t σ H Q) : PA X e t' := ⟨fun pos pins s σ H Q I q => h.run pos pins s σ H Q I (i σ H Q q)⟩
theorem _root_.L2.PSs.of {X : Cx} {e : List Stmt} {t t' : TS} (h : PSs X e t) (i : ∀ D σ H, t' D σ H → t D σ H) : PSs X e t' := ⟨fun pins s σ H D I q => h.run pins s σ H D I (i D σ H q)⟩
theorem _root_.L2.PS.of {X : Cx} {e : Stmt} {t t' : TS} (h : PS X e t) (i : ∀ D σ H, t' D σ H → t D σ H) : PS X e t' := ⟨fun pins s σ H D I q => h.run pins s σ H D I (i D σ H q)⟩
theorem _root_.L2.PI.of {X : Cx} {tg e : Expr} {t t' : TI} (h : PI X tg e t) (i : ∀ σ H R, t' σ H R → t σ H R) : PI X tg e t' := ⟨fun pins s σ H R I q => h.run pins s σ H R I (i σ H R q)⟩

/-- arguments: the chain comes to a tuple of them -/
def tA (g : GW) (W : WX) (f : Rho → Sto → Res) : TA := fun σ H Q => ∃ fb m ρ S o, RS (g.w fb) m σ H ρ S ∧ f ρ S = some o ∧ (match o with
  | .ok (.tup l) S' => ∀ vs m' H', Ext m H m' H' → SRep (g.w fb) m' H' S' → RepL (g.w fb) m' H' l vs → Q vs H'
  | .ok _ _ => False
  | .ex c p S' => ∀ cls d m' H', Ext m H m' H' → SRep (g.w fb) m' H' S' → XRep (g.w fb) H' c p cls d → W cls d σ H')
end Fw

namespace Fw
open PySem L2 PyProof.Rows

/-! ### a text held against the small language -/
structure Gm where
  N : List Str
  sc : Scope
  fnT : Str → Bool
  fname : Nat → Option Str
  fnameL : Nat → Option Str
  lv : Bool
  lamN : Nat → Option Str
  nmL : Nat → Option Str
  cname : Nat → Option Str
  ename : Nat → Option Str
  blt : List Str

def isNm (o : Option Str) (x : Str) : Bool := match o with
  | some y => y == x
  | none => false
def isKind (sc : Scope) (x : Str) (k : NameKind) : Bool := decide (sc.names.lookup x = some k)
def dbg (x : Str) : Bool := !(x == ("__debug__" : Str)) && !(x == ("__classdict__" : Str))
def glb (G : Gm) (x : Str) : Bool := isKind G.sc x .globalImplicit && dbg x
def visB (sc : Scope) (x : Str) : Bool := isKind sc x .local || isKind sc x .cell || isKind sc x .free
/-- a built-in's name, as a built-in -/
def bltB (G : Gm) (x : Str) : Bool := glb G x && G.blt.contains x && !(x == ("__name__" : Str))
def noStar (e : Expr) : Bool := match e with
  | .Starred _ _ => false
  | _ => true
def noSet (e : Expr) : Bool := match e with
  | .Set _ _ _ => false
  | _ => true
def noSup (e : Expr) : Bool := match e with
  | .Call _ _ _ _ => false
  | _ => true
def noComp (e : Expr) : Bool := match e with
  | .ListComp _ _ _ _ => false
  | .SetComp _ _ _ _ => false
  | .DictComp _ _ _ _ _ => false
  | _ => true
def noIf (e : Expr) : Bool := match e with
  | .IfExp _ _ _ _ => false
  | _ => true

def Bl.nm : Bl → Str
  | .len => "len" | .abs => "abs" | .int => "int" | .bool => "bool" | .str => "str" | .max => "max" | .min => "min" | .all => "all" | .tuple => "tuple" | .list => "list"
def Mt.nm : Mt → Str
  | .upper => "upper" | .split => "split" | .join => "join"

/-! views of a text -/
def vConst : Expr → Option Const
  | .Constant c _ _ => some c
  | _ => none
def vName : Expr → Option Str
  | .Name x _ => some x
  | _ => none
def vTup : Expr → Option (List Expr)
  | .Tuple es _ _ => some es
  | _ => none
def vLst : Expr → Option (List Expr)
  | .List es _ => some es
  | _ => none
def vBin : Expr → Option (Expr × Operator × Expr)
  | .BinOp a o b _ => some (a, o, b)
  | _ => none
def vCmp : Expr → Option (Expr × CmpOp × Expr)
  | .Compare a [o] [b] _ => some (a, o, b)
  | _ => none
def vChn : Expr → Option (Expr × CmpOp × Expr × CmpOp × Expr)
  | .Compare a [o, o'] [b, c] _ => some (a, o, b, o', c)
  | _ => none
def vNeg : Expr → Option Expr
  | .UnaryOp .USub a _ => some a
  | _ => none
def vNot : Expr → Option Expr
  | .UnaryOp .Not a _ => some a
  | _ => none
/-- x and y; x and (the rest) -/
def vAnd : Expr → Option (Expr × Expr)
  | .BoolOp .And [x, y] _ => some (x, y)
  | .BoolOp .And (x :: y :: z :: r) p => some (x, .BoolOp .And (y :: z :: r) p)
  | _ => none
def vOr : Expr → Option (Expr × Expr)
  | .BoolOp .Or [x, y] _ => some (x, y)
  | .BoolOp .Or (x :: y :: z :: r) p => some (x, .BoolOp .Or (y :: z :: r) p)
  | _ => none
def vIfE : Expr → Option (Expr × Expr × Expr)
  | .IfExp c a b _ => some (c, a, b)
  | _ => none
def vIx : Expr → Option (Expr × Expr)
  | .Subscript _ (.Slice _ _ _ _) _ => none
  | .Subscript a b _ => some (a, b)
  | _ => none
def vSl : Expr → Option (Expr × Option Expr × Option Expr)
  | .Subscript a (.Slice l h none _) _ => some (a, l, h)
  | _ => none
def vRev : Expr → Option Expr
  | .Subscript a (.Slice none none (some (.UnaryOp .USub (.Constant (.int 1) _ _) _)) _) _ => some a
  | _ => none
def vCall : Expr → Option (Str × List Expr)
  | .Call (.Name x _) (e :: r) [] _ => some (x, e :: r)
  | _ => none
def vMth : Expr → Option (Expr × Str × List Expr)
  | .Call (.Attribute o n ap) r [] pos => if ap.endLine == pos.line then some (o, n, r) else none
  | _ => none
def vLc : Expr → Option (Expr × Expr × Expr × List Expr × Scope)
  | .ListComp e [⟨t, it, c, 0⟩] scope _ => some (e, t, it, c, scope)
  | _ => none

def chkT (G : Gm) : Tg → Expr → Bool
  | .nm i, e => (match vName e with
    | some x => decide (G.N[i]? = some x) && (isKind G.sc x .local || (isKind G.sc x .cell && G.fnT x))
    | none => false)
  | .tp a, e => (match vTup e with
    | some es => chkTs G a es
    | none => false)
  | _, _ => false
where chkTs (G : Gm) : Tg → List Expr → Bool
  | .nl, es => es.isEmpty
  | .cn a b, es => (match es with
    | e :: r => chkT G a e && chkTs G b r
    | [] => false)
  | _, _ => false

def slots : Tg → List Nat
  | .nm i => [i]
  | .nl => []
  | .cn a b => slots a ++ slots b
  | .tp a => slots a
def Gm.blk (G : Gm) (scope : Scope) : Gm := { G with sc := relS scope G.sc, fnT := fun x => scope.names.lookup x == some .cell, lamN := fun _ => none }
/-- inside a lambda -/
def Gm.lm (G : Gm) (scope : Scope) : Gm := { G with sc := scope, fnT := fun _ => false, fname := fun _ => none, fnameL := G.nmL, lv := true, lamN := fun _ => none }
def vLam : Expr → Option (Str × Arguments × Expr × Scope)
  | .Call (.Name x _) [.Lambda ps body sc _] [] _ => some (x, ps, body, sc)
  | _ => none
def noArgs : Arguments → Bool
  | ⟨[], [], none, [], [], none, []⟩ => true
  | _ => false
def lits (G : Gm) (v : T) (e : Expr) : Bool := match v with
  | .non => (match vConst e with | some .none => true | _ => false)
  | .bl b => (match vConst e with | some (.bool c) => b == c | _ => false)
  | .int b => (match vConst e with | some (.int c) => b == c | _ => false)
  | .str b => (match vConst e with | some (.str c) => b == c | _ => false)
  | .fn f => (match vName e with | some x => isNm (G.fname f) x && glb G x | none => false)
  | _ => false
def isYes (a : IE) : Bool := match a with
  | .lit (.bl true) => true
  | _ => false

def is0 (m : Mt) : Bool := match m with
  | .upper => true
  | _ => false
/-- pairs are taken apart by a written tuple -/
def isPair (src : IE) (t : Expr) : Bool := match src with
  | .zp _ _ => (vTup t).isSome
  | .en _ => (vTup t).isSome
  | _ => true
mutual
def chkE (G : Gm) : IE → Expr → Bool
  | .lit v, e => lits G v e
  | .var i, e => (match vName e with | some x => decide (G.N[i]? = some x) && visB G.sc x && dbg x | none => false)
  | .cst c, e => (match vName e with | some x => isNm (G.cname c) x && glb G x | none => false)
  | .tup es, e => (match vTup e with | some xs => chkA G es xs | none => false)
  | .lst _ es, e => (match vLst e with | some xs => chkA G es xs | none => false)
  | .op _ o a b, e => (match vBin e with | some (x, p, y) => decide (o = p) && (chkE G a x && chkE G b y) | none => false)
  | .cmp o a b, e => (match vCmp e with | some (x, p, y) => decide (o = p) && (chkE G a x && (chkE G b y && noSet y)) | none => false)
  | .chn o o' a b c, e => (match vChn e with | some (x, p, y, p', z) => decide (o = p) && (decide (o' = p') && (chkE G a x && (chkE G b y && (chkE G c z && (noSet y && noSet z))))) | none => false)
  | .neg a, e => (match vNeg e with | some x => chkE G a x | none => false)
  | .not a, e => (match vNot e with | some x => chkE G a x && noIf x | none => false)
  | .and a b, e => (match vAnd e with | some (x, y) => chkE G a x && (chkE G b y && (noIf x && noIf y)) | none => false)
  | .or a b, e => (match vOr e with | some (x, y) => chkE G a x && (chkE G b y && (noIf x && noIf y)) | none => false)
  | .ite c a b, e => (match vIfE e with | some (z, x, y) => chkE G c z && (chkE G a x && (chkE G b y && noIf z)) | none => false)
  | .ix a b, e => (match vIx e with | some (x, y) => chkE G a x && chkE G b y | none => false)
  | .sl _ a lo hi, e => (match vSl e with | some (x, l, h) => chkE G a x && ((match l with | some y => chkE G lo y && !isNil lo | none => isNil lo) && (match h with | some y => chkE G hi y && !isNil hi | none => isNil hi)) | none => false)
  | .rev _ a, e => (match vRev e with | some x => chkE G a x | none => false)
  | .call f es, e => (match vCall e with | some (x, r) => isNm (G.fname f) x && (glb G x && chkA G es r) | none => false)
  | .callL f es, e => (match vCall e with | some (x, r) => isNm (G.fnameL f) x && (glb G x && chkA G es r) | none => false)
  | .callv i es, e => (match vCall e with | some (x, r) => !G.lv && (decide (G.N[i]? = some x) && (visB G.sc x && (dbg x && chkA G es r))) | none => false)
  | .callvL i es, e => (match vCall e with | some (x, r) => G.lv && (decide (G.N[i]? = some x) && (visB G.sc x && (dbg x && chkA G es r))) | none => false)
  | .blt _ b es, e => (match vCall e with | some (x, r) => (b.nm == x) && (bltB G x && chkA G es r) | none => false)
  | .lrg _ a b, e => (match vCall e with
    | some (x, [y]) => (match vCall y with
      | some (z, [u, v]) => (x == ("list" : Str)) && ((z == ("range" : Str)) && (bltB G x && (bltB G z && (noStar y && (chkE G a u && (chkE G b v && (noStar u && noStar v)))))))
      | _ => false)
    | _ => false)
  | .lam f b, e => (match vLam e with | some (x, ps, body, sc) => isNm (G.lamN f) x && (glb G x && (noArgs ps && (LamX.lamSB G.sc sc && chkE (G.lm sc) b body))) | none => false)
  | .isi a ty, e => (match vCall e with
    | some (x, [y, z]) => (match vName z with
      | some w => (x == ("isinstance" : Str)) && ((w == Str.ofString ty) && (bltB G x && (bltB G w && (["int", "bool", "str", "tuple", "list"].contains ty && (chkE G a y && noStar y)))))
      | none => false)
    | _ => false)
  | .mt0 m o, e => (match vMth e with | some (x, n, []) => (m.nm == n) && (is0 m && (noSup x && chkE G o x)) | _ => false)
  | .mt1 m o a, e => (match vMth e with | some (x, n, [y]) => (m.nm == n) && (!is0 m && (noSup x && (noStar y && (chkE G o x && chkE G a y)))) | _ => false)
  | .lc _ own elt tg src cnd, e => (match vLc e with
    | some (x, t, it, cs, scope) => blkC G.N G.sc scope (own.map fun i => (G.N.getD i "", i)) && ((slots tg).all (own.contains ·) && (chkT (G.blk scope) tg t && ((isPair src t && (chkI G src it && noSet it)) && (chkE (G.blk scope) elt x && (match cs with
      | [] => isYes cnd
      | [c] => chkE (G.blk scope) cnd c && noIf c
      | _ => false)))))
    | none => false)
  | _, _ => false
def chkA (G : Gm) : IE → List Expr → Bool
  | .nil, es => es.isEmpty
  | .cons a b, es => (match es with | e :: r => chkE G a e && (noStar e && chkA G b r) | [] => false)
  | _, _ => false
def chkI (G : Gm) : IE → Expr → Bool
  | .sq a, e => chkE G a e && noSet e
  | .rg1 a, e => (match vCall e with | some (x, [y]) => (x == ("range" : Str)) && (bltB G x && (chkE G a y && noStar y)) | _ => false)
  | .rg2 a b, e => (match vCall e with | some (x, [y, z]) => (x == ("range" : Str)) && (bltB G x && (chkE G a y && (chkE G b z && (noStar y && noStar z)))) | _ => false)
  | .zp a b, e => (match vCall e with | some (x, [y, z]) => (x == ("zip" : Str)) && (bltB G x && (chkE G a y && (chkE G b z && (noStar y && noStar z)))) | _ => false)
  | .en a, e => (match vCall e with | some (x, [y]) => (x == ("enumerate" : Str)) && (bltB G x && (chkE G a y && noStar y)) | _ => false)
  | _, _ => false
end
def chkO (G : Gm) (a : IE) (o : Option Expr) : Bool := match o with
  | some e => chkE G a e && !isNil a
  | none => isNil a

/-! ### statements -/
/-- how a written tuple is stored into a written tuple of names: none where the library has no word -/
def swN (sc : Scope) (ts vs : List Expr) : Option (Option (List Str)) :=
  if (!(ts.length == 2 || ts.length == 3) || vs.length != ts.length) = true then some none else
  if (vs.any fun | .Starred .. => true | _ => false) = true then some none else
  if ((ts.filterMap fun
    | .Name id pos => if sc.names.lookup id == some .local && pos.line == (ts.head?.map (·.pos.line)).getD 0 then some id else none
    | _ => none).length != ts.length || (ts.filterMap fun
    | .Name id pos => if sc.names.lookup id == some .local && pos.line == (ts.head?.map (·.pos.line)).getD 0 then some id else none
    | _ => none).eraseDups.length != (ts.filterMap fun
    | .Name id pos => if sc.names.lookup id == some .local && pos.line == (ts.head?.map (·.pos.line)).getD 0 then some id else none
    | _ => none).length) = true then some none else
  if vs.all (foldedForSure 8) = true then some none else
  if vs.all (constantsAlone 8) = true then none else
  some (some (ts.filterMap fun
    | .Name id pos => if sc.names.lookup id == some .local && pos.line == (ts.head?.map (·.pos.line)).getD 0 then some id else none
    | _ => none))
/-- stored as one value -/
def asOne (G : Gm) (ts : List Expr) (v : Expr) : Bool := match vTup v with
  | some vs => decide (swN G.sc ts vs = some none)
  | none => true
/-- a comprehension whose list goes straight to the name -/
def swC (G : Gm) (x : Str) (l : Nat) (v : Expr) : Bool := match v with
  | .ListComp _ _ scope p => isKind G.sc x .local && (l == p.line) && !(scope.names.any fun (n, k) => n == x && (k == .local || k == .cell))
  | _ => false

/-- a comprehension stored as any value is: to a captured name, or on another line -/
def swF (G : Gm) (x : Str) (l : Nat) (v : Expr) : Bool := match v with
  | .ListComp _ _ _ p => !isKind G.sc x .local || !(l == p.line)
  | _ => false

inductive VS where
  | pass | brk | cnt | ret (e : Option Expr) | expr (e : Expr) | asg (t : Expr) (v : Expr) (l : Nat) | iff (c : Expr) (a b : List Stmt)
  | for_ (t i : Expr) (b : List Stmt) | whl (c : Expr) (b : List Stmt) | rs (e : Expr)
def vS : Stmt → Option VS
  | .Pass _ => some .pass
  | .Break _ => some .brk
  | .Continue _ => some .cnt
  | .Return e _ => some (.ret e)
  | .Expr e _ => some (.expr e)
  | .Assign [t] v _ => some (.asg t v t.pos.line)
  | .If c a b _ => some (.iff c a b)
  | .For t i b [] _ => some (.for_ t i b)
  | .While c b [] _ => some (.whl c b)
  | .Raise (some e) none _ => some (.rs e)
  | _ => none
def vSub : Expr → Option (Expr × Expr)
  | .Subscript _ (.Slice _ _ _ _) _ => none
  | .Subscript a b _ => some (a, b)
  | _ => none
def vRs : Expr → Option Str
  | .Call (.Name x _) [.Constant (.str _) _ _] [] _ => some x
  | _ => none
def vName2 : List Expr → Option (Str × Str)
  | [.Name x _, .Name y _] => some (x, y)
  | _ => none
def vName3 : List Expr → Option (Str × Str × Str)
  | [.Name x _, .Name y _, .Name z _] => some (x, y, z)
  | _ => none

mutual
def chkS (G : Gm) : IS → Stmt → Bool
  | .pass, s => (match vS s with | some .pass => true | _ => false)
  | .brk, s => (match vS s with | some .brk => true | _ => false)
  | .cnt, s => (match vS s with | some .cnt => true | _ => false)
  | .ret e, s => (match vS s with | some (.ret (some x)) => chkE G e x | some (.ret none) => (match e with | .lit .non => true | _ => false) | _ => false)
  | .expr e, s => (match vS s with | some (.expr x) => chkE G e x && noComp x | _ => false)
  | .asg tg e, s => (match vS s with
    | some (.asg t v l) => chkT G tg t && (chkE G e v && (match vName t with
      | some x => (noComp v || swF G x l v) || swC G x l v
      | none => (match vTup t with
        | some ts => noComp v && asOne G ts v
        | none => false)))
    | _ => false)
  | .par2 i j es, s => (match vS s with
    | some (.asg t v l) => (match vTup t with
      | some ts => (match vTup v with
        | some vs => (match vName2 ts with
          | some (x, y) => decide (G.N[i]? = some x) && (decide (G.N[j]? = some y) && (decide (i ≠ j) && (isKind G.sc x .local && (isKind G.sc y .local && (decide (swN G.sc ts vs = some (some [x, y])) && (chkA G es vs && decide (vs.length = 2)))))))
          | none => false)
        | none => false)
      | none => false)
    | _ => false)
  | .par3 i j k es, s => (match vS s with
    | some (.asg t v l) => (match vTup t with
      | some ts => (match vTup v with
        | some vs => (match vName3 ts with
          | some (x, y, z) => decide (G.N[i]? = some x) && (decide (G.N[j]? = some y) && (decide (G.N[k]? = some z) && (decide (i ≠ j) && (decide (i ≠ k) && (decide (j ≠ k) && (isKind G.sc x .local && (isKind G.sc y .local && (isKind G.sc z .local && (decide (swN G.sc ts vs = some (some [x, y, z])) && (chkA G es vs && decide (vs.length = 3)))))))))))
          | none => false)
        | none => false)
      | none => false)
    | _ => false)
  | .sub o i e, s => (match vS s with
    | some (.asg t v _) => (match vSub t with
      | some (x, y) => chkE G o x && (chkE G i y && chkE G e v)
      | none => false)
    | _ => false)
  | .app o e, s => (match vS s with
    | some (.expr x) => (match vMth x with
      | some (ob, n, [y]) => (n == ("append" : Str)) && (noSup ob && (noStar y && (chkE G o ob && chkE G e y)))
      | _ => false)
    | _ => false)
  | .iff c a b, s => (match vS s with | some (.iff x p q) => chkE G c x && (noIf x && (chkB G a p && chkB G b q)) | _ => false)
  | .for_ tg src b, s => (match vS s with | some (.for_ t it p) => chkT G tg t && (isPair src t && (chkI G src it && (noSet it && chkB G b p))) | _ => false)
  | .whl c b, s => (match vS s with | some (.whl x p) => chkE G c x && (noIf x && chkB G b p) | _ => false)
  | .rs c, s => (match vS s with | some (.rs e) => (match vRs e with | some x => isNm (G.ename c) x && glb G x | none => false) | _ => false)
  | _, _ => false
def chkB (G : Gm) : IS → List Stmt → Bool
  | .skip, l => l.isEmpty
  | .seq a b, l => (match l with | s :: r => chkS G a s && chkB G b r | [] => false)
  | _, _ => false
end
end Fw

namespace Fw
open PySem L2 PyProof.Rows

/-- as Rep, but a list may be a box's -/
def RepD (g : GW) (m : List Addr) (H : Hp) (t : T) (v : V) : Prop := match t with
  | .lst l => ∃ a vs, v = .ref a ∧ H a = some (.lst vs) ∧ RepL g m H l vs
  | t => Rep g m H t v

theorem RepD.of {g : GW} {m : List Addr} {H : Hp} {t : T} {v : V} (h : Rep g m H t v) : RepD g m H t v := by
  cases t with
  | lst l =>
    simp only [Rep] at h
    obtain ⟨a, vs, h1, _, _, h3, h4⟩ := h
    exact ⟨a, vs, h1, h3, h4⟩
  | _ => exact h

theorem RepD.drf {g : GW} {m : List Addr} {H : Hp} {S : Sto} {t : T} {v : V} (sr : SRep g m H S) (h : Rep g m H t v) : RepD g m H (drf S t) v := by
  cases t with
  | box n =>
    show RepD g m H (match S[n]? with | some (.lst l) => .lst l | _ => .box n) v
    have h' := h
    simp only [Rep] at h
    obtain ⟨a, h1, h2⟩ := h
    cases e : S[n]? with
    | none => exact RepD.of h'
    | some ob =>
      cases ob with
      | lst l =>
        obtain ⟨vs, q1, q2⟩ := sr.at_ n _ a e h1
        exact ⟨a, vs, h2, q1, q2⟩
      | dct _ => exact RepD.of h'
      | ins _ _ => exact RepD.of h'
  | _ => exact RepD.of h

theorem RepL.length {g : GW} {m : List Addr} {H : Hp} : ∀ {ts : List T} {vs : List V}, RepL g m H ts vs → ts.length = vs.length
  | [], vs, h => by simp only [RepL] at h; subst h; rfl
  | t :: ts, vs, h => by
    simp only [RepL] at h
    obtain ⟨v, r, rfl, _, q⟩ := h
    simp [RepL.length q]
theorem RepL.get {g : GW} {m : List Addr} {H : Hp} : ∀ {ts : List T} {vs : List V} {i : Nat} {t : T}, RepL g m H ts vs → ts[i]? = some t → ∃ v, vs[i]? = some v ∧ Rep g m H t v
  | [], vs, i, t, h, e => by simp at e
  | t :: ts, vs, 0, u, h, e => by
    simp only [RepL] at h
    obtain ⟨v, r, rfl, h1, q⟩ := h
    simp at e; subst e
    exact ⟨v, rfl, h1⟩
  | t :: ts, vs, i + 1, u, h, e => by
    simp only [RepL] at h
    obtain ⟨v, r, rfl, h1, q⟩ := h
    simp at e
    obtain ⟨w, h2, h3⟩ := RepL.get q e
    exact ⟨w, by simpa using h2, h3⟩
theorem RepL.append {g : GW} {m : List Addr} {H : Hp} : ∀ {ts us : List T} {vs ws : List V}, RepL g m H ts vs → RepL g m H us ws → RepL g m H (ts ++ us) (vs ++ ws)
  | [], us, vs, ws, h, q => by simp only [RepL] at h; subst h; exact q
  | t :: ts, us, vs, ws, h, q => by
    simp only [RepL] at h
    obtain ⟨v, r, rfl, h1, h2⟩ := h
    show RepL g m H (t :: (ts ++ us)) (v :: (r ++ ws))
    simp only [RepL]
    exact ⟨v, r ++ ws, rfl, h1, RepL.append h2 q⟩
theorem RepL.drop {g : GW} {m : List Addr} {H : Hp} : ∀ {ts : List T} {vs : List V} (n : Nat), RepL g m H ts vs → RepL g m H (ts.drop n) (vs.drop n)
  | ts, vs, 0, h => h
  | [], vs, n + 1, h => by simp only [RepL] at h; subst h; simp [RepL]
  | t :: ts, vs, n + 1, h => by
    simp only [RepL] at h
    obtain ⟨v, r, rfl, h1, h2⟩ := h
    exact RepL.drop n h2
theorem RepL.take {g : GW} {m : List Addr} {H : Hp} : ∀ {ts : List T} {vs : List V} (n : Nat), RepL g m H ts vs → RepL g m H (ts.take n) (vs.take n)
  | ts, vs, 0, h => by simp [RepL]
  | [], vs, n + 1, h => by simp only [RepL] at h; subst h; simp [RepL]
  | t :: ts, vs, n + 1, h => by
    simp only [RepL] at h
    obtain ⟨v, r, rfl, h1, h2⟩ := h
    show RepL g m H (t :: ts.take n) (v :: r.take n)
    simp only [RepL]
    exact ⟨v, r.take n, rfl, h1, RepL.take n h2⟩
theorem RepL.set {g : GW} {m : List Addr} {H : Hp} : ∀ {ts : List T} {vs : List V} (n : Nat) {t : T} {v : V}, RepL g m H ts vs → Rep g m H t v → RepL g m H (ts.set n t) (vs.set n v)
  | [], vs, n, t, v, h, q => by simp only [RepL] at h; subst h; simp [RepL]
  | u :: ts, vs, 0, t, v, h, q => by
    simp only [RepL] at h
    obtain ⟨w, r, rfl, h1, h2⟩ := h
    show RepL g m H (t :: ts) (v :: r)
    simp only [RepL]
    exact ⟨v, r, rfl, q, h2⟩
  | u :: ts, vs, n + 1, t, v, h, q => by
    simp only [RepL] at h
    obtain ⟨w, r, rfl, h1, h2⟩ := h
    show RepL g m H (u :: ts.set n t) (w :: r.set n v)
    simp only [RepL]
    exact ⟨w, r.set n v, rfl, h1, RepL.set n h2 q⟩
theorem RepL.reverse {g : GW} {m : List Addr} {H : Hp} : ∀ {ts : List T} {vs : List V}, RepL g m H ts vs → RepL g m H ts.reverse vs.reverse
  | [], vs, h => by simp only [RepL] at h; subst h; simp [RepL]
  | t :: ts, vs, h => by
    simp only [RepL] at h
    obtain ⟨v, r, rfl, h1, h2⟩ := h
    rw [List.reverse_cons, List.reverse_cons]
    refine RepL.append (RepL.reverse h2) ?_
    simp only [RepL]
    exact ⟨v, [], rfl, h1, rfl⟩
theorem RepL.rep {g : GW} {m : List Addr} {H : Hp} {ts : List T} {vs : List V} (h : RepL g m H ts vs) : ∀ k : Nat, RepL g m H (List.replicate k ts).flatten (List.replicate k vs).flatten
  | 0 => by simp [RepL]
  | k + 1 => by
    rw [List.replicate_succ, List.replicate_succ, List.flatten_cons, List.flatten_cons]
    exact RepL.append h (RepL.rep h k)
theorem RepL.nil {g : GW} {m : List Addr} {H : Hp} : RepL g m H [] [] := by simp [RepL]
theorem RepL.cons {g : GW} {m : List Addr} {H : Hp} {t : T} {v : V} {ts : List T} {vs : List V} (h : Rep g m H t v) (q : RepL g m H ts vs) : RepL g m H (t :: ts) (v :: vs) := by
  simp only [RepL]; exact ⟨v, vs, rfl, h, q⟩

section
variable {g : GW} {m : List Addr} {H : Hp} {v : V}
theorem Rep.bl_ {b : Bool} : Rep g m H (.bl b) (.bl b) := by simp [Rep]
theorem Rep.int_ {b : Int} : Rep g m H (.int b) (.int b) := by simp [Rep]
theorem Rep.str_ {b : Str} : Rep g m H (.str b) (.str b) := by simp [Rep]
theorem Rep.non_ : Rep g m H .non .non := by simp [Rep]
theorem RepD.int {i : Int} (h : RepD g m H (.int i) v) : v = .int i := by simpa [RepD, Rep] using h
theorem RepD.bl {i : Bool} (h : RepD g m H (.bl i) v) : v = .bl i := by simpa [RepD, Rep] using h
theorem RepD.str {i : Str} (h : RepD g m H (.str i) v) : v = .str i := by simpa [RepD, Rep] using h
theorem RepD.tup {l : List T} (h : RepD g m H (.tup l) v) : ∃ a vs, v = .ref a ∧ SqT g.K H a vs ∧ RepL g m H l vs := by
  simp only [RepD, Rep] at h
  obtain ⟨a, vs, h1, h2, h3⟩ := h
  refine ⟨a, vs, h1, ?_, h3⟩
  rcases h2 with ⟨_, _, h2⟩ | h2
  · exact .inl h2
  · exact .inr h2
theorem RepD.lst {l : List T} (h : RepD g m H (.lst l) v) : ∃ a vs, v = .ref a ∧ H a = some (.lst vs) ∧ RepL g m H l vs := h
theorem RepD.scr {l : List Int} (h : RepD g m H (.scr l) v) : ∃ a, v = .ref a ∧ SqL g.K H a (l.map V.int) := by
  simp only [RepD, Rep] at h
  obtain ⟨a, h1, h2⟩ := h
  refine ⟨a, h1, ?_⟩
  rcases h2 with ⟨_, _, h2⟩ | h2
  · exact .inl h2
  · exact .inr h2

/-! what is to be reached, reached -/
variable {W : WX} {σ : L2.St} {Q : VK} {S : Sto}
theorem fin_val {t : T} (G : GoodE g W m σ H Q (.ok t S)) (sr : SRep g m H S) (r : Rep g m H t v) : Q v H := G v m H (Ext.refl _ _) sr r
theorem fin_lst {bx : Bool} {l : List T} {vs : List V} (G : GoodE g W m σ H Q (newL bx (.lst l) S)) (sr : SRep g m H S) (r : RepL g m H l vs) : ∀ p, H p = none → Q (.ref p) (upd H p (.lst vs)) := fun p hp => by
  cases bx with
  | true =>
    refine G (.ref p) (m ++ [p]) _ (Ext.box hp) (sr.box hp r) ?_
    simp only [Rep]
    exact ⟨p, by rw [← sr.len]; simp, rfl⟩
  | false =>
    refine G (.ref p) m _ (Ext.new hp) (sr.new hp) ?_
    simp only [Rep]
    exact ⟨p, vs, rfl, sr.fresh hp, sr.freshF hp, upd_same, RepL.mono (Ext.new hp) l r⟩
theorem fin_tup {l : List T} {vs : List V} (G : GoodE g W m σ H Q (.ok (.tup l) S)) (sr : SRep g m H S) (r : RepL g m H l vs) : ∀ p, H p = none → Q (.ref p) (upd H p (.tup vs)) := fun p hp => by
  refine G (.ref p) m _ (Ext.new hp) (sr.new hp) ?_
  simp only [Rep]
  exact ⟨p, vs, rfl, .inl ⟨sr.fresh hp, sr.freshF hp, .inl upd_same⟩, RepL.mono (Ext.new hp) l r⟩
end

theorem line_eq : line = sizeLine := by rw [sizeLine_eq]; rfl

/-! ### truth -/
theorem tru_of {g : GW} {K : PySem.W.Frag} {m : List Addr} {H : Hp} {S : Sto} {t : T} {v : V} {b : Bool} (sr : SRep g m H S) (r : Rep g m H t v) (h : truthy S t = some b) (hK : g.K = K := by rfl) : TruV K v H b := by
  subst hK
  cases t with
  | non => simp only [Rep] at r; subst r; simp [truthy] at h; exact h
  | bl b => simp only [Rep] at r; subst r; simp [truthy] at h; exact h.symm
  | int i => simp only [Rep] at r; subst r; simp [truthy] at h; exact h.symm
  | str s =>
    simp only [Rep] at r; subst r
    simp only [truthy] at h
    split at h
    · rename_i q
      rw [line_eq] at q
      refine ⟨q, ?_⟩
      simp at h
      rw [← h]
      cases hl : s.length with
      | zero => rfl
      | succ n =>
        simp [bne, BEq.beq]
        omega
    · cases h
  | tup l =>
    obtain ⟨a, vs, rfl, q, rl⟩ := RepD.tup (RepD.of r)
    simp only [truthy, Option.some.injEq] at h
    refine .inr (.inl ⟨vs, q, ?_⟩)
    rw [← h]
    have := rl.length
    cases l <;> cases vs <;> simp_all
  | lst l =>
    obtain ⟨a, vs, rfl, q, rl⟩ := RepD.lst (RepD.of r)
    simp only [truthy, Option.some.injEq] at h
    refine .inl ⟨vs, SqL.of q, ?_⟩
    rw [← h]
    have := rl.length
    cases l <;> cases vs <;> simp_all
  | box n =>
    simp only [truthy] at h
    simp only [Rep] at r
    obtain ⟨a, h1, rfl⟩ := r
    split at h
    · rename_i l e
      obtain ⟨vs, q1, rl⟩ := sr.at_ n _ a e h1
      simp only [Option.some.injEq] at h
      refine .inl ⟨vs, SqL.of q1, ?_⟩
      rw [← h]
      have := rl.length
      cases l <;> cases vs <;> simp_all
    · cases h
  | fn f => simp [truthy] at h
  | scr l => simp [truthy] at h

/-! ### data -/
mutual
theorem rep_dp {g : GW} {m : List Addr} {H : Hp} : ∀ (t : T) {v : V} {d : PyData}, RepD g m H t v → toD t = some d → Dp g.K H v d
  | .non, v, d, r, e => by
    simp only [RepD, Rep] at r; subst r; simp only [toD, Option.some.injEq] at e; subst e; exact .non
  | .bl b, v, d, r, e => by
    simp only [RepD, Rep] at r; subst r; simp only [toD, Option.some.injEq] at e; subst e; exact .bl b
  | .int b, v, d, r, e => by
    simp only [RepD, Rep] at r; subst r; simp only [toD, Option.some.injEq] at e; subst e; exact .int b
  | .str b, v, d, r, e => by
    simp only [RepD, Rep] at r; subst r; simp only [toD, Option.some.injEq] at e; subst e; exact .str b
  | .tup l, v, d, r, e => by
    obtain ⟨a, vs, rfl, q, rl⟩ := RepD.tup r
    simp only [toD] at e
    cases h : toDs l with
    | none => rw [h] at e; cases e
    | some ds =>
      rw [h] at e
      simp only [Option.some.injEq] at e; subst e
      exact .tup q (rep_dps l rl h)
  | .lst l, v, d, r, e => by
    obtain ⟨a, vs, rfl, q, rl⟩ := RepD.lst r
    simp only [toD] at e
    cases h : toDs l with
    | none => rw [h] at e; cases e
    | some ds =>
      rw [h] at e
      simp only [Option.some.injEq] at e; subst e
      exact .lst (SqL.of q) (rep_dps l rl h)
  | .box n, v, d, r, e => by simp [toD] at e
  | .fn n, v, d, r, e => by simp [toD] at e
  | .scr n, v, d, r, e => by simp [toD] at e
theorem rep_dps {g : GW} {m : List Addr} {H : Hp} : ∀ (ts : List T) {vs : List V} {ds : List PyData}, RepL g m H ts vs → toDs ts = some ds → DpAll g.K H vs ds
  | [], vs, ds, r, e => by
    simp only [RepL] at r; subst r; simp only [toDs, Option.some.injEq] at e; subst e; exact .nil
  | t :: ts, vs, ds, r, e => by
    simp only [RepL] at r
    obtain ⟨v, r', rfl, h1, h2⟩ := r
    simp only [toDs] at e
    cases h3 : toD t with
    | none => rw [h3] at e; cases e
    | some d =>
      rw [h3] at e
      cases h4 : toDs ts with
      | none => rw [h4] at e; cases e
      | some es =>
        rw [h4] at e
        simp only [Option.some.injEq] at e; subst e
        exact .cons (rep_dp t (RepD.of h1) h3) (rep_dps ts h2 h4)
end
mutual
theorem toD_plain : ∀ (t : T) {d : PyData}, toD t = some d → d.plain = true
  | .non, d, e => by simp only [toD, Option.some.injEq] at e; subst e; rfl
  | .bl b, d, e => by simp only [toD, Option.some.injEq] at e; subst e; rfl
  | .int b, d, e => by simp only [toD, Option.some.injEq] at e; subst e; rfl
  | .str b, d, e => by simp only [toD, Option.some.injEq] at e; subst e; rfl
  | .tup l, d, e => by
    simp only [toD] at e
    cases h : toDs l with
    | none => rw [h] at e; cases e
    | some ds =>
      rw [h] at e
      simp only [Option.some.injEq] at e; subst e
      have := toDs_plain l h
      simpa [PyData.plain] using this
  | .lst l, d, e => by
    simp only [toD] at e
    cases h : toDs l with
    | none => rw [h] at e; cases e
    | some ds =>
      rw [h] at e
      simp only [Option.some.injEq] at e; subst e
      have := toDs_plain l h
      simpa [PyData.plain] using this
  | .box n, d, e => by simp [toD] at e
  | .fn n, d, e => by simp [toD] at e
  | .scr n, d, e => by simp [toD] at e
theorem toDs_plain : ∀ (ts : List T) {ds : List PyData}, toDs ts = some ds → PyData.plainAll ds = true
  | [], ds, e => by simp only [toDs, Option.some.injEq] at e; subst e; rfl
  | t :: ts, ds, e => by
    simp only [toDs] at e
    cases h3 : toD t with
    | none => rw [h3] at e; cases e
    | some d =>
      rw [h3] at e
      cases h4 : toDs ts with
      | none => rw [h4] at e; cases e
      | some es =>
        rw [h4] at e
        simp only [Option.some.injEq] at e; subst e
        simp [PyData.plainAll, toD_plain t h3, toDs_plain ts h4]
end
end Fw

namespace Fw
open PySem L2 PyProof.Rows

/-! ### operators, by values -/
def rB (g : GW) (o : Operator) : R2 := fun x y H Q => ∃ W m σ S bx s t u, SRep g m H S ∧ RepD g m H s x ∧ RepD g m H t y ∧ bop o s t = some u ∧ GoodE g W m σ H Q (newL bx u S)

theorem newL_ne {bx : Bool} {t : T} {S : Sto} (h : ∀ l, t ≠ .lst l) : newL bx t S = .ok t S := by
  cases t <;> first | rfl | exact absurd rfl (h _)

theorem non_iff {g : GW} {m : List Addr} {H : Hp} {t : T} {v : V} (r : Rep g m H t v) : decide (v = V.non) = (match t with | .non => true | _ => false) := by
  cases t <;> simp only [Rep] at r
  case non => subst r; rfl
  case bl => subst r; rfl
  case int => subst r; rfl
  case str => subst r; rfl
  case fn => subst r; rfl
  case box => obtain ⟨a, _, rfl⟩ := r; rfl
  case scr => obtain ⟨a, rfl, _⟩ := r; rfl
  case tup => obtain ⟨a, vs, rfl, _⟩ := r; rfl
  case lst => obtain ⟨a, vs, rfl, _⟩ := r; rfl

section
variable {X : Cx} {g : GW}

theorem op_b (hK : X.K = g.K) (o : Operator) : OpR X (binaryOp o) (rB g o) := by
  intro pins s σ H x y v u Q I rx ry h
  obtain ⟨W, m, σ', S, bx, a, b, r, sr, ra, rb, e, G⟩ := h
  unfold bop at e
  split at e
  · -- int + int
    rename_i i j
    cases RepD.int ra; cases RepD.int rb
    simp only [Option.some.injEq] at e; subst e
    exact op_add pins s σ H _ _ v u Q I rx ry ⟨i, j, rfl, rfl, fin_val (t := .int _) G sr Rep.int_⟩
  · rename_i i j
    cases RepD.str ra; cases RepD.str rb
    split at e
    · rename_i hl
      simp only [Option.some.injEq] at e; subst e
      rw [line_eq] at hl
      exact op_add_str pins s σ H _ _ v u Q I rx ry ⟨i, j, rfl, rfl, hl, fin_val (t := .str _) G sr Rep.str_⟩
    · cases e
  · -- tuples
    rename_i k l
    obtain ⟨a1, vs, rfl, q1, l1⟩ := RepD.tup ra
    obtain ⟨b1, ws, rfl, q2, l2⟩ := RepD.tup rb
    split at e
    · rename_i hl
      simp only [Option.some.injEq] at e; subst e
      rw [line_eq, l1.length, l2.length] at hl
      rw [← hK] at q1 q2
      refine op_catA pins s σ H _ _ v u Q I rx ry ⟨a1, b1, vs, ws, rfl, rfl, q1, q2, hl, fun z => ?_, fun _ z => ?_, fun _ _ => fin_tup G sr (l1.append l2)⟩
      · subst z
        have : k = [] := List.eq_nil_of_length_eq_zero l1.length
        subst this
        exact fin_val (t := .tup l) G sr rb
      · subst z
        have : l = [] := List.eq_nil_of_length_eq_zero l2.length
        subst this
        rw [List.append_nil] at G
        exact fin_val (t := .tup k) G sr ra
    · cases e
  · rename_i k l
    obtain ⟨a1, vs, rfl, q1, l1⟩ := RepD.lst ra
    obtain ⟨b1, ws, rfl, q2, l2⟩ := RepD.lst rb
    split at e
    · rename_i hl
      simp only [Option.some.injEq] at e; subst e
      rw [line_eq, l1.length, l2.length] at hl
      exact op_cat pins s σ H _ _ v u Q I rx ry ⟨a1, b1, vs, ws, rfl, rfl, q1, q2, hl, fin_lst G sr (l1.append l2)⟩
    · cases e
  · rename_i i j
    cases RepD.int ra; cases RepD.int rb
    simp only [Option.some.injEq] at e; subst e
    exact op_sub pins s σ H _ _ v u Q I rx ry ⟨i, j, rfl, rfl, fin_val (t := .int _) G sr Rep.int_⟩
  · rename_i i j
    cases RepD.int ra; cases RepD.int rb
    split at e
    · rename_i hl
      simp only [Option.some.injEq] at e; subst e
      refine op_mul pins s σ H _ _ v u Q I rx ry ⟨i, j, rfl, rfl, ?_, fin_val (t := .int _) G sr Rep.int_⟩
      simpa [small64, CMul] using hl
    · cases e
  · rename_i l k
    obtain ⟨a1, vs, rfl, q1, l1⟩ := RepD.tup ra
    cases RepD.int rb
    split at e
    · rename_i hl
      simp only [Option.some.injEq] at e; subst e
      simp only [Bool.and_eq_true, decide_eq_true_eq, Bool.not_eq_true', List.isEmpty_eq_false_iff] at hl
      obtain ⟨⟨⟨h1, h2⟩, h3⟩, h4⟩ := hl
      rw [← hK] at q1
      refine op_repT pins s σ H _ _ v u Q I rx ry ⟨a1, k, vs, rfl, rfl, q1, ?_, h2, h3, by rw [← l1.length]; exact h4, ?_⟩
      · intro z; subst z
        have := l1.length
        simp at this
        exact h1 this
      · exact fin_tup G sr (l1.rep _)
    · cases e
  · rename_i i j
    cases RepD.int ra; cases RepD.int rb
    split at e
    · rename_i hl
      simp only [Option.some.injEq] at e; subst e
      refine op_fdiv pins s σ H _ _ v u Q I rx ry ⟨i, j, rfl, rfl, ?_, fin_val (t := .int _) G sr Rep.int_⟩
      simpa [CDiv] using hl
    · cases e
  · rename_i i j
    cases RepD.int ra; cases RepD.int rb
    split at e
    · rename_i hl
      simp only [Option.some.injEq] at e; subst e
      refine op_mod pins s σ H _ _ v u Q I rx ry ⟨i, j, rfl, rfl, ?_, fin_val (t := .int _) G sr Rep.int_⟩
      simpa using hl
    · cases e
  · rename_i i j
    cases RepD.int ra; cases RepD.int rb
    split at e
    · rename_i hl
      simp only [Option.some.injEq] at e; subst e
      refine op_pow pins s σ H _ _ v u Q I rx ry ⟨i, j, rfl, rfl, ?_, fin_val (t := .int _) G sr Rep.int_⟩
      simp only [Bool.and_eq_true, decide_eq_true_eq] at hl
      exact ⟨hl.1.1, hl.1.2, hl.2⟩
    · cases e
  · rename_i p j
    cases RepD.bl ra; cases RepD.int rb
    simp only [Option.some.injEq] at e; subst e
    cases rx
    obtain ⟨u, rfl⟩ := ry
    exact IntBool.add_bool_int ⟨.int _, H, I.tok _, ⟨_, rfl⟩, fin_val (t := .int _) G sr Rep.int_⟩
  · rename_i p j
    cases RepD.bl ra; cases RepD.int rb
    simp only [Option.some.injEq] at e; subst e
    cases rx
    obtain ⟨u, rfl⟩ := ry
    exact IntBool.sub_bool_int ⟨.int _, H, I.tok _, ⟨_, rfl⟩, fin_val (t := .int _) G sr Rep.int_⟩
  · cases e

theorem slot_bool_neg : Slot "bool" "__neg__" "int.__neg__" :=
  .of (owner := "int") (n := "__neg__") (by rw [typeLookup_type, builtinLookup_eq_fast]; kernel_rfl) (by decide +kernel) (by decide +kernel) (by decide +kernel)
    (by first | exact .inl (by decide +kernel) | exact .inr (by decide +kernel)) (by rw [isSubtype_type]; kernel_rfl)
theorem neg_bool {prog : Program} {w : World} {A : Around} {E : Value → Shared → Prop} {s : Shared} {a : Bool} {Q : Value → Shared → Prop} (h : Q (.int (-(if a = true then (1 : Int) else 0)) s.toks) { s with toks := s.toks + 1 }) : wpAny (model prog w) A (unaryOp .USub (.bool a)) Q E s := by
  unfold unaryOp
  refine wpAny_holding ?_
  refine wpAny_bind (m := callSpecial? (.bool a) (Str.ofString "__neg__")) (wpAny_callSpecial?_slot (name := Str.ofString "__neg__") rfl slot_bool_neg
    (wpAny_call_entry slot_bool_neg rfl entry_int_neg ?_ (args_int_neg _)))
  show wpAny _ _ (do ret (← mkInt (-(if a = true then (1 : Int) else 0)))) _ _ s
  exact wpAny_ret_mkInt (wpAny_pure h)
/-- - of an int or a bool -/
theorem un_ng : UnR X (unaryOp .USub) (fun x H Q => ∃ y, (∃ i, x = .int i ∧ y = -i) ∧ Q (.int y) H ∨ (∃ p, x = .bl p ∧ y = -(if p = true then (1 : Int) else 0)) ∧ Q (.int y) H) := by
  intro pins s σ H x v Q I rx h
  obtain ⟨y, ⟨⟨i, rfl, rfl⟩, q⟩ | ⟨⟨p, rfl, rfl⟩, q⟩⟩ := h
  · obtain ⟨t, rfl⟩ := rx
    exact neg_int ⟨.int _, H, I.tok _, ⟨_, rfl⟩, q⟩
  · cases rx
    exact neg_bool ⟨.int _, H, I.tok _, ⟨_, rfl⟩, q⟩

/-! comparisons -/
def rCo (g : GW) (o : CmpOp) : R2 := fun x y H Q => ∃ W m σ S s t b, SRep g m H S ∧ Rep g m H s x ∧ Rep g m H t y ∧ cop S o s t = some b ∧ GoodE g W m σ H Q (.ok (.bl b) S)

theorem eq_reads {pins : List (Addr × Obj)} {σ : L2.St} {s : Shared} {m : List Addr} {H : Hp} (hK : X.K = g.K) (I : Inv X pins σ H s) {t : T} {v : V} {u : Value} {d : PyData} (r : RepD g m H t v) (rv : RelV v u) (e : toD t = some d) :
    ∃ as, Reads s.heap u d as := Dp.reads I d v u (by rw [hK]; exact rep_dp t r e) rv

theorem op_c (hK : X.K = g.K) (hu : X.A.units + 64 < cLine) (o : CmpOp) : OpR X (compareOp o) (rCo g o) := by
  intro pins s σ H x y v u Q I rx ry h
  obtain ⟨W, m, σ', S, a, b, k, sr, ra, rb, e, G⟩ := h
  have q : Q (.bl k) H := fin_val G sr Rep.bl_
  have qe : EP X pins σ Q (.bool k) s := ⟨.bl k, H, I, rfl, q⟩
  have eqs : ∀ {k' : Bool}, eqT (drf S a) (drf S b) = some k' → ∃ da db as bs, Reads s.heap v da as ∧ Reads s.heap u db bs ∧ da.plain = true ∧ db.plain = true ∧ X.A.units + min da.depth db.depth < cLine ∧ PyData.eqv da db = k' := by
    intro k' e
    unfold eqT at e
    split at e
    · rename_i da e1
      split at e
      · rename_i db e2
        split at e
        · rename_i hs
          obtain ⟨as, r1⟩ := eq_reads hK I (RepD.drf sr ra) rx e1
          obtain ⟨bs, r2⟩ := eq_reads hK I (RepD.drf sr rb) ry e2
          refine ⟨da, db, as, bs, r1, r2, toD_plain _ e1, toD_plain _ e2, ?_, by simpa using e⟩
          have : min da.depth db.depth ≤ 60 := by simpa [shal] using hs
          omega
        · cases e
      · cases e
    · cases e
  have ins : ∀ {k' : Bool} {l : List T}, inT (drf S a) l = some k' → ∃ d ds as, Reads s.heap v d as ∧ toDs l = some ds ∧ d.plain = true ∧ PyData.plainAll ds = true ∧ X.A.units + 1 + min (PyData.depthAll ds) d.depth < cLine ∧ (ds.any fun z => PyData.eqv z d) = k' := by
    intro k' l e
    unfold inT at e
    split at e
    · rename_i d e1
      split at e
      · rename_i ds e2
        split at e
        · rename_i hs
          obtain ⟨as, r1⟩ := eq_reads hK I (RepD.drf sr ra) rx e1
          refine ⟨d, ds, as, r1, e2, toD_plain _ e1, toDs_plain _ e2, ?_, by simpa using e⟩
          have : d.depth ≤ 60 := by simpa using hs
          omega
        · cases e
      · cases e
    · cases e
  cases o with
  | Eq =>
    obtain ⟨da, db, as, bs, r1, r2, p1, p2, hd, ev⟩ := eqs e
    exact SeqAt.eq_plain r1 r2 p1 p2 hd (by rw [ev]; exact qe)
  | NotEq =>
    simp only [cop] at e
    split at e
    · rename_i k' e'
      obtain ⟨da, db, as, bs, r1, r2, p1, p2, hd, ev⟩ := eqs e'
      simp only [Option.some.injEq] at e
      exact SeqAt.ne_plain r1 r2 p1 p2 hd (by rw [ev, e]; exact qe)
    · cases e
  | Lt =>
    simp only [cop] at e
    split at e
    · rename_i i j
      cases RepD.int (RepD.of ra); cases RepD.int (RepD.of rb)
      simp only [Option.some.injEq] at e
      exact op_lt pins s σ H _ _ v u Q I rx ry ⟨i, j, rfl, rfl, by show Q (.bl (decide (i < j))) H; rw [e]; exact q⟩
    · cases e
  | LtE =>
    simp only [cop] at e
    split at e
    · rename_i i j
      cases RepD.int (RepD.of ra); cases RepD.int (RepD.of rb)
      simp only [Option.some.injEq] at e
      exact op_le pins s σ H _ _ v u Q I rx ry ⟨i, j, rfl, rfl, by show Q (.bl (decide (i ≤ j))) H; rw [e]; exact q⟩
    · cases e
  | Gt =>
    simp only [cop] at e
    split at e
    · rename_i i j
      cases RepD.int (RepD.of ra); cases RepD.int (RepD.of rb)
      simp only [Option.some.injEq] at e
      exact op_gt pins s σ H _ _ v u Q I rx ry ⟨i, j, rfl, rfl, by show Q (.bl (decide (j < i))) H; rw [e]; exact q⟩
    · cases e
  | GtE =>
    simp only [cop] at e
    split at e
    · rename_i i j
      cases RepD.int (RepD.of ra); cases RepD.int (RepD.of rb)
      simp only [Option.some.injEq] at e
      exact op_ge pins s σ H _ _ v u Q I rx ry ⟨i, j, rfl, rfl, by show Q (.bl (decide (j ≤ i))) H; rw [e]; exact q⟩
    · cases e
  | Is =>
    simp only [cop] at e
    split at e
    · have hy : y = .non := by simpa [Rep] using rb
      refine op_isN pins s σ H _ _ v u Q I rx ry ⟨hy, ?_⟩
      have : decide (x = V.non) = k := by
        rw [non_iff ra]
        cases a <;> simp at e ⊢ <;> exact e
      rw [this]; exact q
    · split at e
      · rename_i a0
        cases RepD.bl (RepD.of ra); cases RepD.bl (RepD.of rb)
        simp only [Option.some.injEq] at e
        refine op_isBl pins s σ H _ _ v u Q I rx ry ⟨_, _, rfl, rfl, ?_⟩
        rw [e]; exact q
      · cases e
    · cases e
  | IsNot =>
    simp only [cop] at e
    split at e
    · have hy : y = .non := by simpa [Rep] using rb
      refine op_notN pins s σ H _ _ v u Q I rx ry ⟨hy, ?_⟩
      have : (!decide (x = V.non)) = k := by
        rw [non_iff ra]
        cases a <;> simp at e ⊢ <;> exact e
      rw [this]; exact q
    · split at e
      · rename_i a0
        cases RepD.bl (RepD.of ra); cases RepD.bl (RepD.of rb)
        simp only [Option.some.injEq] at e
        refine op_notBl pins s σ H _ _ v u Q I rx ry ⟨_, _, rfl, rfl, ?_⟩
        rw [e]; exact q
      · cases e
    · cases e
  | In =>
    simp only [cop] at e
    have rb' := RepD.drf sr rb
    split at e
    · rename_i l hl
      rw [hl] at rb'
      obtain ⟨d, ds, as, r1, e2, p1, p2, hd, ev⟩ := ins e
      have e3 : toD (T.tup l) = some (.tuple ds) := by simp [toD, e2]
      obtain ⟨bs, r2⟩ := eq_reads hK I rb' ry e3
      exact SeqAt.in_tuple_data r2 r1 p2 p1 hd (by rw [ev]; exact qe)
    · rename_i l hl
      rw [hl] at rb'
      obtain ⟨d, ds, as, r1, e2, p1, p2, hd, ev⟩ := ins e
      have e3 : toD (T.lst l) = some (.list ds) := by simp [toD, e2]
      obtain ⟨bs, r2⟩ := eq_reads hK I rb' ry e3
      exact SeqAt.in_list_data r2 r1 p2 p1 hd (by rw [ev]; exact qe)
    · rename_i z hl
      rw [hl] at rb'
      split at e
      · rename_i z'
        cases RepD.str (RepD.of ra)
        cases RepD.str rb'
        simp only [Option.some.injEq] at e
        exact op_in_str pins s σ H _ _ v u Q I rx ry ⟨z', z, rfl, rfl, by rw [e]; exact q⟩
      · cases e
    · cases e
  | NotIn =>
    simp only [cop] at e
    have rb' := RepD.drf sr rb
    split at e
    · rename_i l hl
      rw [hl] at rb'
      split at e
      · rename_i k' e'
        obtain ⟨d, ds, as, r1, e2, p1, p2, hd, ev⟩ := ins e'
        have e3 : toD (T.tup l) = some (.tuple ds) := by simp [toD, e2]
        obtain ⟨bs, r2⟩ := eq_reads hK I rb' ry e3
        simp only [Option.some.injEq] at e
        exact SeqAt.notIn_tuple_data r2 r1 p2 p1 hd (by rw [ev, e]; exact qe)
      · cases e
    · rename_i l hl
      rw [hl] at rb'
      split at e
      · rename_i k' e'
        obtain ⟨d, ds, as, r1, e2, p1, p2, hd, ev⟩ := ins e'
        have e3 : toD (T.lst l) = some (.list ds) := by simp [toD, e2]
        obtain ⟨bs, r2⟩ := eq_reads hK I rb' ry e3
        simp only [Option.some.injEq] at e
        exact SeqAt.notIn_list_data r2 r1 p2 p1 hd (by rw [ev, e]; exact qe)
      · cases e
    · rename_i z hl
      rw [hl] at rb'
      split at e
      · rename_i z'
        cases RepD.str (RepD.of ra)
        cases RepD.str rb'
        simp only [Option.some.injEq] at e
        exact op_notIn_str pins s σ H _ _ v u Q I rx ry ⟨z', z, rfl, rfl, by rw [e]; exact q⟩
      · cases e
    · cases e

/-! subscripts -/
def rIxT (g : GW) : R2 := fun x y H Q => ∃ W m σ S s t u, SRep g m H S ∧ Rep g m H s x ∧ Rep g m H t y ∧ ixT S s t = some u ∧ GoodE g W m σ H Q (.ok u S)

theorem atI_rep {m : List Addr} {H : Hp} {l : List T} {vs : List V} {k : Int} {u : T} (r : RepL g m H l vs) (e : atI l k = some u) : ∃ v, atI vs k = some v ∧ Rep g m H u v := by
  unfold atI at e ⊢
  rw [← r.length]
  cases h : ixN l.length k with
  | none => rw [h] at e; cases e
  | some j =>
    rw [h] at e
    exact r.get e

theorem ix_t (hK : X.K = g.K) : IxR X (rIxT g) := by
  intro value slice pins s σ H x y v u Q I rx ry h hs
  obtain ⟨W, m, σ', S, a, b, r, sr, ra, rb, e, G⟩ := h
  have ra' := RepD.drf sr ra
  unfold ixT at e
  split at e
  · rename_i l k hl
    rw [hl] at ra'
    obtain ⟨p, vs, rfl, q1, l1⟩ := RepD.tup ra'
    cases RepD.int (RepD.of rb)
    obtain ⟨w, h1, h2⟩ := atI_rep l1 e
    rw [← hK] at q1
    refine ix_tup value slice pins s σ H _ _ v u Q I rx ry ⟨p, vs, k, w, rfl, rfl, q1, h1, fin_val G sr h2⟩ hs
  · rename_i l k hl
    rw [hl] at ra'
    obtain ⟨p, vs, rfl, q1, l1⟩ := RepD.lst ra'
    cases RepD.int (RepD.of rb)
    obtain ⟨w, h1, h2⟩ := atI_rep l1 e
    refine ix_list value slice pins s σ H _ _ v u Q I rx ry ⟨p, vs, k, w, rfl, rfl, SqL.of q1, h1, fin_val G sr h2⟩ hs
  · rename_i l k hl
    rw [hl] at ra'
    obtain ⟨p, rfl, q1⟩ := RepD.scr ra'
    cases RepD.int (RepD.of rb)
    split at e
    · rename_i z hz
      simp only [Option.some.injEq] at e; subst e
      rw [← hK] at q1
      refine ix_list value slice pins s σ H _ _ v u Q I rx ry ⟨p, _, k, .int z, rfl, rfl, q1, ?_, fin_val G sr Rep.int_⟩ hs
      unfold atI at hz ⊢
      rw [List.length_map]
      cases h : ixN l.length k with
      | none => rw [h] at hz; cases hz
      | some j =>
        rw [h] at hz
        have hz' : l[j]? = some z := hz
        show (l.map V.int)[j]? = some (.int z)
        simp [hz']
    · cases e
  · rename_i z k hl
    rw [hl] at ra'
    cases RepD.str ra'
    cases RepD.int (RepD.of rb)
    split at e
    · rename_i hz
      split at e
      · rename_i c hc
        simp only [Option.some.injEq] at e; subst e
        rw [line_eq] at hz
        refine ix_str value slice pins s σ H _ _ v u Q I rx ry ⟨z, k, c, rfl, rfl, hz, hc, fin_val G sr Rep.str_⟩ hs
      · cases e
    · cases e
  · cases e

/-! slices -/
theorem cutL_rep {m : List Addr} {H : Hp} {l : List T} {vs : List V} {lo hi : Option Int} (r : RepL g m H l vs) : RepL g m H (cutL l lo hi) (cutV vs lo hi) := by
  unfold cutL cutV
  rw [r.length]
  exact (r.drop _).take _
def rSlTT (g : GW) : V → Option Int → Option Int → Hp → VK → Prop := fun x lo hi H Q => ∃ W m σ S bx s u, SRep g m H S ∧ Rep g m H s x ∧ slT S s lo hi = some u ∧ GoodE g W m σ H Q (newL bx u S)
theorem sl_t (hK : X.K = g.K) : SlR X (rSlTT g) := by
  intro pins s σ H x v vl vu lo hi sl Q I rx hs pl pu h
  obtain ⟨W, m, σ', S, bx, a, r, sr, ra, e, G⟩ := h
  have ra' := RepD.drf sr ra
  unfold slT at e
  split at e
  · rename_i l hl
    rw [hl] at ra'
    obtain ⟨p, vs, ex, q1, l1⟩ := RepD.tup ra'
    simp only [Option.some.injEq] at e; subst e
    have q1' := q1
    rw [← hK] at q1
    refine sl_tupA pins s σ H x v vl vu lo hi sl Q I rx hs pl pu ⟨p, vs, ex, q1, fun hw => ?_, fun _ => fin_tup G sr (cutL_rep l1)⟩
    have hc : cutL l lo hi = l := by
      unfold cutL
      rw [l1.length, hw.1, hw.2, List.drop_zero, ← l1.length, Nat.sub_zero, List.take_length]
    rw [hc] at G
    subst ex
    exact fin_val (t := .tup l) G sr ra'
  · rename_i l hl
    rw [hl] at ra'
    obtain ⟨p, vs, ex, q1, l1⟩ := RepD.lst ra'
    simp only [Option.some.injEq] at e; subst e
    exact sl_list pins s σ H x v vl vu lo hi sl Q I rx hs pl pu ⟨p, vs, ex, SqL.of q1, fin_lst G sr (cutL_rep l1)⟩
  · rename_i z hl
    rw [hl] at ra'
    cases RepD.str ra'
    split at e
    · rename_i hz
      simp only [Option.some.injEq] at e; subst e
      rw [line_eq] at hz
      exact sl_str pins s σ H _ v vl vu lo hi sl Q I rx hs pl pu ⟨z, rfl, hz, fin_val (t := .str _) G sr Rep.str_⟩
    · cases e
  · cases e

/-! .. whatever lists are under way -/
def rBx (g : GW) (o : Operator) : R2 := fun x y H Q => ∃ fb, rB (g.w fb) o x y H Q
theorem op_bx (hK : X.K = g.K) (o : Operator) : OpR X (binaryOp o) (rBx g o) := fun pins s σ H x y v u Q I rx ry ⟨fb, h⟩ => op_b (g := g.w fb) hK o pins s σ H x y v u Q I rx ry h
def rCx (g : GW) (o : CmpOp) : R2 := fun x y H Q => ∃ fb, rCo (g.w fb) o x y H Q
theorem op_cx (hK : X.K = g.K) (hu : X.A.units + 64 < cLine) (o : CmpOp) : OpR X (compareOp o) (rCx g o) := fun pins s σ H x y v u Q I rx ry ⟨fb, h⟩ => op_c (g := g.w fb) hK hu o pins s σ H x y v u Q I rx ry h
def rIx_ (g : GW) : R2 := fun x y H Q => ∃ fb, rIxT (g.w fb) x y H Q
theorem ix_x (hK : X.K = g.K) : IxR X (rIx_ g) := fun a b pins s σ H x y v u Q I rx ry ⟨fb, h⟩ hs => ix_t (g := g.w fb) hK a b pins s σ H x y v u Q I rx ry h hs
def rSlx (g : GW) : V → Option Int → Option Int → Hp → VK → Prop := fun x lo hi H Q => ∃ fb, rSlTT (g.w fb) x lo hi H Q
theorem sl_x (hK : X.K = g.K) : SlR X (rSlx g) := fun pins s σ H x v vl vu lo hi sl Q I rx hs pl pu ⟨fb, h⟩ => sl_t (g := g.w fb) hK pins s σ H x v vl vu lo hi sl Q I rx hs pl pu h
end
end Fw

namespace Fw
open PySem L2 PyProof.Rows

theorem maxI_spec : ∀ (r : List Int) (a : Int), maxI a r ∈ a :: r ∧ ∀ y ∈ a :: r, y ≤ maxI a r
  | [], a => by simp [maxI]
  | b :: r, a => by
    obtain ⟨h1, h2⟩ := maxI_spec r (if b > a then b else a)
    show maxI (if b > a then b else a) r ∈ a :: b :: r ∧ ∀ y ∈ a :: b :: r, y ≤ maxI (if b > a then b else a) r
    have h3 := h2 _ List.mem_cons_self
    generalize maxI (if b > a then b else a) r = M at *
    refine ⟨?_, fun y hy => ?_⟩
    · rcases List.mem_cons.mp h1 with q | q
      · rw [q]; split <;> simp
      · exact List.mem_cons_of_mem _ (List.mem_cons_of_mem _ q)
    · rcases List.mem_cons.mp hy with q | q
      · subst q; split at h3 <;> omega
      · rcases List.mem_cons.mp q with q | q
        · subst q; split at h3 <;> omega
        · exact h2 y (List.mem_cons_of_mem _ q)
theorem minI_spec : ∀ (r : List Int) (a : Int), minI a r ∈ a :: r ∧ ∀ y ∈ a :: r, minI a r ≤ y
  | [], a => by simp [minI]
  | b :: r, a => by
    obtain ⟨h1, h2⟩ := minI_spec r (if b < a then b else a)
    show minI (if b < a then b else a) r ∈ a :: b :: r ∧ ∀ y ∈ a :: b :: r, minI (if b < a then b else a) r ≤ y
    have h3 := h2 _ List.mem_cons_self
    generalize minI (if b < a then b else a) r = M at *
    refine ⟨?_, fun y hy => ?_⟩
    · rcases List.mem_cons.mp h1 with q | q
      · rw [q]; split <;> simp
      · exact List.mem_cons_of_mem _ (List.mem_cons_of_mem _ q)
    · rcases List.mem_cons.mp hy with q | q
      · subst q; split at h3 <;> omega
      · rcases List.mem_cons.mp q with q | q
        · subst q; split at h3 <;> omega
        · exact h2 y (List.mem_cons_of_mem _ q)

section
variable {g : GW} {m : List Addr} {H : Hp}
theorem rep_ints : ∀ {l : List T} {ns : List Int} {vs : List V}, RepL g m H l vs → intsOf l = some ns → vs = ns.map V.int
  | [], ns, vs, r, e => by simp only [RepL] at r; subst r; simp [intsOf] at e; subst e; rfl
  | .int b :: l, ns, vs, r, e => by
    simp only [RepL, Rep] at r
    obtain ⟨v, w, rfl, rfl, h⟩ := r
    simp only [intsOf] at e
    split at e
    · rename_i k hk
      simp only [Option.some.injEq] at e; subst e
      rw [rep_ints h hk]; rfl
    · cases e
  | .non :: l, ns, vs, r, e => by simp [intsOf] at e
  | .bl _ :: l, ns, vs, r, e => by simp [intsOf] at e
  | .str _ :: l, ns, vs, r, e => by simp [intsOf] at e
  | .tup _ :: l, ns, vs, r, e => by simp [intsOf] at e
  | .lst _ :: l, ns, vs, r, e => by simp [intsOf] at e
  | .box _ :: l, ns, vs, r, e => by simp [intsOf] at e
  | .fn _ :: l, ns, vs, r, e => by simp [intsOf] at e
  | .scr _ :: l, ns, vs, r, e => by simp [intsOf] at e
theorem rep_bools : ∀ {l : List T} {ns : List Bool} {vs : List V}, RepL g m H l vs → boolsOf l = some ns → vs = ns.map V.bl
  | [], ns, vs, r, e => by simp only [RepL] at r; subst r; simp [boolsOf] at e; subst e; rfl
  | .bl b :: l, ns, vs, r, e => by
    simp only [RepL, Rep] at r
    obtain ⟨v, w, rfl, rfl, h⟩ := r
    simp only [boolsOf] at e
    split at e
    · rename_i k hk
      simp only [Option.some.injEq] at e; subst e
      rw [rep_bools h hk]; rfl
    · cases e
  | .non :: l, ns, vs, r, e => by simp [boolsOf] at e
  | .int _ :: l, ns, vs, r, e => by simp [boolsOf] at e
  | .str _ :: l, ns, vs, r, e => by simp [boolsOf] at e
  | .tup _ :: l, ns, vs, r, e => by simp [boolsOf] at e
  | .lst _ :: l, ns, vs, r, e => by simp [boolsOf] at e
  | .box _ :: l, ns, vs, r, e => by simp [boolsOf] at e
  | .fn _ :: l, ns, vs, r, e => by simp [boolsOf] at e
  | .scr _ :: l, ns, vs, r, e => by simp [boolsOf] at e
theorem rep_strs : ∀ {l : List T} {ns : List Str} {vs : List V}, RepL g m H l vs → strsOf l = some ns → vs = ns.map V.str
  | [], ns, vs, r, e => by simp only [RepL] at r; subst r; simp [strsOf] at e; subst e; rfl
  | .str b :: l, ns, vs, r, e => by
    simp only [RepL, Rep] at r
    obtain ⟨v, w, rfl, rfl, h⟩ := r
    simp only [strsOf] at e
    split at e
    · rename_i k hk
      simp only [Option.some.injEq] at e; subst e
      rw [rep_strs h hk]; rfl
    · cases e
  | .non :: l, ns, vs, r, e => by simp [strsOf] at e
  | .int _ :: l, ns, vs, r, e => by simp [strsOf] at e
  | .bl _ :: l, ns, vs, r, e => by simp [strsOf] at e
  | .tup _ :: l, ns, vs, r, e => by simp [strsOf] at e
  | .lst _ :: l, ns, vs, r, e => by simp [strsOf] at e
  | .box _ :: l, ns, vs, r, e => by simp [strsOf] at e
  | .fn _ :: l, ns, vs, r, e => by simp [strsOf] at e
  | .scr _ :: l, ns, vs, r, e => by simp [strsOf] at e
theorem rep_of_strs : ∀ (l : List Str), RepL g m H (l.map T.str) (l.map V.str)
  | [] => RepL.nil
  | s :: l => RepL.cons Rep.str_ (rep_of_strs l)
theorem RepL.one {t : T} {vs : List V} (h : RepL g m H [t] vs) : ∃ v, vs = [v] ∧ Rep g m H t v := by
  simp only [RepL] at h
  obtain ⟨v, r, rfl, h1, rfl⟩ := h
  exact ⟨v, rfl, h1⟩
theorem RepL.two {t u : T} {vs : List V} (h : RepL g m H [t, u] vs) : ∃ v w, vs = [v, w] ∧ Rep g m H t v ∧ Rep g m H u w := by
  simp only [RepL] at h
  obtain ⟨v, r, rfl, h1, w, r', rfl, h2, rfl⟩ := h
  exact ⟨v, w, rfl, h1, h2⟩
end

def Bl.val : Bl → Value
  | .len => .builtin "len" | .abs => .builtin "abs" | .max => .builtin "max" | .min => .builtin "min" | .all => .builtin "all"
  | .int => .type "int" | .bool => .type "bool" | .str => .type "str" | .tuple => .type "tuple" | .list => .type "list"

def rBl (g : GW) (b : Bl) : List V → Hp → VK → Prop := fun xs H Q => ∃ W m σ S bx ts u, SRep g m H S ∧ RepL g m H ts xs ∧ bltT S b ts = some u ∧ GoodE g W m σ H Q (newL bx u S)

section
variable {X : Cx} {g : GW}
theorem call_blt (hK : X.K = g.K) (hc : X.calm = true) (b : Bl) : CallR X b.val (rBl g b) := by
  intro pins s σ H xs us Q I r h
  obtain ⟨W, m, σ', S, bx, ts, u, sr, rp, e, G⟩ := h
  unfold bltT at e
  split at e
  · -- len
    rename_i x
    obtain ⟨v, rfl, rv⟩ := rp.one
    have rd := RepD.drf sr rv
    split at e
    · rename_i l hl
      rw [hl] at rd
      obtain ⟨p, vs, rfl, q1, l1⟩ := RepD.tup rd
      simp only [Option.some.injEq] at e; subst e
      rw [← hK] at q1
      exact call_len_seq pins s σ H _ us Q I r ⟨p, vs, rfl, .inr q1, by rw [← l1.length]; exact fin_val (t := .int _) G sr Rep.int_⟩
    · rename_i l hl
      rw [hl] at rd
      obtain ⟨p, vs, rfl, q1, l1⟩ := RepD.lst rd
      simp only [Option.some.injEq] at e; subst e
      exact call_len_seq pins s σ H _ us Q I r ⟨p, vs, rfl, .inl (SqL.of q1), by rw [← l1.length]; exact fin_val (t := .int _) G sr Rep.int_⟩
    · rename_i l hl
      rw [hl] at rd
      obtain ⟨p, rfl, q1⟩ := RepD.scr rd
      simp only [Option.some.injEq] at e; subst e
      rw [← hK] at q1
      exact call_len_seq pins s σ H _ us Q I r ⟨p, _, rfl, .inl q1, by rw [List.length_map]; exact fin_val (t := .int _) G sr Rep.int_⟩
    · rename_i z hl
      rw [hl] at rd
      cases RepD.str rd
      split at e
      · rename_i hz
        simp only [Option.some.injEq] at e; subst e
        rw [line_eq] at hz
        exact call_len_str pins s σ H _ us Q I r ⟨z, rfl, hz, fin_val (t := .int _) G sr Rep.int_⟩
      · cases e
    · cases e
  · -- abs
    obtain ⟨v, rfl, rv⟩ := rp.one
    cases RepD.int (RepD.of rv)
    simp only [Option.some.injEq] at e; subst e
    exact call_abs pins s σ H _ us Q I r ⟨_, rfl, fin_val (t := .int _) G sr Rep.int_⟩
  · obtain ⟨v, rfl, rv⟩ := rp.one
    cases RepD.int (RepD.of rv)
    simp only [Option.some.injEq] at e; subst e
    exact call_int1 pins s σ H _ us Q I r (.inl ⟨_, rfl, fin_val (t := .int _) G sr Rep.int_⟩)
  · obtain ⟨v, rfl, rv⟩ := rp.one
    cases RepD.bl (RepD.of rv)
    simp only [Option.some.injEq] at e; subst e
    exact call_int1 pins s σ H _ us Q I r (.inr ⟨_, rfl, fin_val (t := .int _) G sr Rep.int_⟩)
  · -- int of a text
    rename_i a
    obtain ⟨v, rfl, rv⟩ := rp.one
    cases RepD.str (RepD.of rv)
    split at e
    · rename_i hz
      split at e
      · rename_i n hn
        simp only [Option.some.injEq] at e; subst e
        exact call_int_str pins s σ H _ us Q I r ⟨a, n, rfl, hn, hz, fin_val (t := .int _) G sr Rep.int_⟩
      · cases e
    · cases e
  · obtain ⟨v, rfl, rv⟩ := rp.one
    cases RepD.int (RepD.of rv)
    simp only [Option.some.injEq] at e; subst e
    exact call_bool1 pins s σ H _ us Q I r (.inl ⟨_, rfl, fin_val (t := .bl _) G sr Rep.bl_⟩)
  · obtain ⟨v, rfl, rv⟩ := rp.one
    cases RepD.bl (RepD.of rv)
    simp only [Option.some.injEq] at e; subst e
    exact call_bool1 pins s σ H _ us Q I r (.inr ⟨_, rfl, fin_val (t := .bl _) G sr Rep.bl_⟩)
  · -- str of an int
    rename_i i
    obtain ⟨v, rfl, rv⟩ := rp.one
    cases RepD.int (RepD.of rv)
    split at e
    · rename_i hz
      simp only [Option.some.injEq] at e; subst e
      exact call_str_int pins s σ H _ us Q I r ⟨_, rfl, hz, fin_val (t := .str _) G sr Rep.str_⟩
    · cases e
  · obtain ⟨v, w, rfl, rv, rw'⟩ := rp.two
    cases RepD.int (RepD.of rv)
    cases RepD.int (RepD.of rw')
    simp only [Option.some.injEq] at e; subst e
    exact call_max2 hc pins s σ H _ us Q I r ⟨_, _, rfl, fin_val (t := .int _) G sr Rep.int_⟩
  · obtain ⟨v, w, rfl, rv, rw'⟩ := rp.two
    cases RepD.int (RepD.of rv)
    cases RepD.int (RepD.of rw')
    simp only [Option.some.injEq] at e; subst e
    exact call_min2 hc pins s σ H _ us Q I r ⟨_, _, rfl, fin_val (t := .int _) G sr Rep.int_⟩
  · -- max of a list
    obtain ⟨v, rfl, rv⟩ := rp.one
    have rd := RepD.drf sr rv
    split at e
    · rename_i l hl
      rw [hl] at rd
      obtain ⟨p, vs, rfl, q1, l1⟩ := RepD.lst rd
      split at e
      · rename_i a r' hi
        simp only [Option.some.injEq] at e; subst e
        have := rep_ints l1 hi
        subst this
        refine cr_max hc pins s σ H _ us Q I r ⟨p, a :: r', rfl, SqL.of q1, by simp, fun M h1 h2 => ?_⟩
        obtain ⟨h3, h4⟩ := maxI_spec r' a
        have : M = maxI a r' := by
          have := h4 M h1
          have := h2 _ h3
          omega
        rw [this]
        exact fin_val (t := .int _) G sr Rep.int_
      · cases e
    · cases e
  · obtain ⟨v, rfl, rv⟩ := rp.one
    have rd := RepD.drf sr rv
    split at e
    · rename_i l hl
      rw [hl] at rd
      obtain ⟨p, vs, rfl, q1, l1⟩ := RepD.lst rd
      split at e
      · rename_i a r' hi
        simp only [Option.some.injEq] at e; subst e
        have := rep_ints l1 hi
        subst this
        refine cr_min hc pins s σ H _ us Q I r ⟨p, a :: r', rfl, SqL.of q1, by simp, fun M h1 h2 => ?_⟩
        obtain ⟨h3, h4⟩ := minI_spec r' a
        have : M = minI a r' := by
          have := h4 M h1
          have := h2 _ h3
          omega
        rw [this]
        exact fin_val (t := .int _) G sr Rep.int_
      · cases e
    · cases e
  · -- all
    obtain ⟨v, rfl, rv⟩ := rp.one
    have rd := RepD.drf sr rv
    split at e
    · rename_i l hl
      rw [hl] at rd
      obtain ⟨p, vs, rfl, q1, l1⟩ := RepD.lst rd
      split at e
      · rename_i bs hi
        simp only [Option.some.injEq] at e; subst e
        have := rep_bools l1 hi
        subst this
        exact cr_all hc pins s σ H _ us Q I r ⟨p, bs, rfl, SqL.of q1, fin_val (t := .bl _) G sr Rep.bl_⟩
      · cases e
    · cases e
  · -- tuple
    obtain ⟨v, rfl, rv⟩ := rp.one
    have rd := RepD.drf sr rv
    split at e
    · rename_i l hl
      rw [hl] at rd
      obtain ⟨p, vs, rfl, q1, l1⟩ := RepD.tup rd
      simp only [Option.some.injEq] at e; subst e
      rw [← hK] at q1
      exact call_tuple_of pins s σ H _ us Q I r ⟨p, vs, rfl, .inr ⟨q1, fin_val (t := .tup _) G sr rd⟩⟩
    · rename_i l hl
      rw [hl] at rd
      obtain ⟨p, vs, rfl, q1, l1⟩ := RepD.lst rd
      simp only [Option.some.injEq] at e; subst e
      exact call_tuple_of pins s σ H _ us Q I r ⟨p, vs, rfl, .inl ⟨SqL.of q1, fin_tup G sr l1⟩⟩
    · cases e
  · -- list
    obtain ⟨v, rfl, rv⟩ := rp.one
    have rd := RepD.drf sr rv
    split at e
    · rename_i l hl
      rw [hl] at rd
      obtain ⟨p, vs, rfl, q1, l1⟩ := RepD.tup rd
      simp only [Option.some.injEq] at e; subst e
      rw [← hK] at q1
      exact call_list_of pins s σ H _ us Q I r ⟨p, vs, rfl, .inr q1, fin_lst G sr l1⟩
    · rename_i l hl
      rw [hl] at rd
      obtain ⟨p, vs, rfl, q1, l1⟩ := RepD.lst rd
      simp only [Option.some.injEq] at e; subst e
      exact call_list_of pins s σ H _ us Q I r ⟨p, vs, rfl, .inl (SqL.of q1), fin_lst G sr l1⟩
    · cases e
  · cases e

def rBlx (g : GW) (b : Bl) : List V → Hp → VK → Prop := fun xs H Q => ∃ fb, rBl (g.w fb) b xs H Q
theorem call_bltx (hK : X.K = g.K) (hc : X.calm = true) (b : Bl) : CallR X b.val (rBlx g b) := fun pins s σ H xs us Q I r ⟨fb, h⟩ => call_blt (g := g.w fb) hK hc b pins s σ H xs us Q I r h

/-! isinstance with a built-in type -/
theorem ty_of {m : List Addr} {H : Hp} {S : Sto} {t : T} {v : V} {a : String} (hK : X.K = g.K) (sr : SRep g m H S) (r : Rep g m H t v) (e : tyT S t = some a) : TyX X.K H v (.type a) := by
  have tupK : ∀ {p : Addr} {vs : List V}, SqT g.K H p vs → TyX X.K H (.ref p) (.type "tuple") := fun {p vs} q => by
    rcases q with (q | ⟨o, q⟩) | ⟨o, its, n, h1, h2, _⟩
    · exact .base (.tup q)
    · exact .fTuple q
    · exact .kTuple (by rw [hK]; exact h1) h2
  cases t with
  | non => simp only [Rep] at r; subst r; simp [tyT] at e; subst e; exact .base .non
  | bl b => simp only [Rep] at r; subst r; simp [tyT] at e; subst e; exact .base (.bl b)
  | int b => simp only [Rep] at r; subst r; simp [tyT] at e; subst e; exact .base (.int b)
  | str b => simp only [Rep] at r; subst r; simp [tyT] at e; subst e; exact .base (.str b)
  | tup l => obtain ⟨p, vs, rfl, q1, l1⟩ := RepD.tup (RepD.of r); simp [tyT] at e; subst e; exact tupK q1
  | lst l => obtain ⟨p, vs, rfl, q1, l1⟩ := RepD.lst (RepD.of r); simp [tyT] at e; subst e; exact .base (.lst q1)
  | box n =>
    simp only [Rep] at r
    obtain ⟨p, h1, rfl⟩ := r
    simp only [tyT] at e
    split at e
    · rename_i l hl
      obtain ⟨vs, q1, _⟩ := sr.at_ n _ p hl h1
      simp only [Option.some.injEq] at e; subst e
      exact .base (.lst q1)
    · cases e
  | fn f => simp [tyT] at e
  | scr f => simp [tyT] at e

theorem tys {S : Sto} {t : T} {a : String} (e : tyT S t = some a) : a ∈ ["NoneType", "bool", "int", "str", "tuple", "list"] := by
  unfold tyT at e
  split at e <;> (try (split at e)) <;> simp at e <;> subst e <;> simp
end
end Fw

namespace Fw
open PySem L2 PyProof.Rows

/-! ### the wish of a def, and the context of its body -/
def GoodC (g : GW) (m : List Addr) (H : Hp) (Q : VK) (E : XK) : Out → Prop
  | .ok t S' => ∀ v m' H', Ext m H m' H' → SRep g m' H' S' → Rep g m' H' t v → Q v H'
  | .ex c p S' => ∀ cls d m' H', Ext m H m' H' → SRep g m' H' S' → XRep g H' c p cls d → E cls d H'
def spF (g : GW) (call : Nat → List T → Sto → Res) (f np : Nat) : Sp := fun vs H Q E => vs.length = np ∧ ∃ fb m S ts o, RepL (g.w fb) m H ts vs ∧ SRep (g.w fb) m H S ∧ call f ts S = some o ∧ GoodC (g.w fb) m H Q E o

/-- what is known of the def with number f, where it may be called by c -/
def CallOk (X : Cx) (g : GW) (c : Nat → List T → Sto → Res) (f : Nat) : Prop := ∃ k fd ps, FnOk X.prog X.w X.K X.mg X.base (L2.CX X.prog X.w) k (g.fa f) fd ps (spF g c f ps.length) ∧ Room k X.A ∧ PySem.W.keepIn X.K (.ref (g.fa f)) = true ∧ Binds X.K fd ps [] ∧ ∀ ts S o, c f ts S = some o → ts.length = ps.length
/-- what the except clauses wish -/
def hOk (K : PySem.W.Frag) (g : GW) (Q : VK) : List (Nat × Str) → XK
  | [] => fun _ _ _ => False
  | (c, s) :: r => fun cls d H => ∃ b, PySem.W.exmOne K cls (.ref (g.ea c)) = some b ∧ (b = true → Q (.str s) H) ∧ (b = false → hOk K g Q r cls d H)
def TTm (K : PySem.W.Frag) (g : GW) (hds : List (Nat × Str)) (r : Str) : (XK → Hp → VK → Prop) → Hp → VK → Prop := fun tl H Q => tl (hOk K g Q hds) H fun _ H' => Q (.str r) H'
/-- what is known of the def x that calls a lambda and tells how it ended -/
inductive LamOk (X : Cx) (g : GW) (E : EV) (nmL : Nat → Option Str) (f : Nat) (x : Str) : Prop
  | mk {a : Str} {g0 c P : Addr} {k : Nat} {pg : Arguments} {bg : List Stmt} {sg : Scope} {dV kV doc pm cdv ct oc : Value} {an od : Option Addr} {osl : Array (Option Value)} {Ng : List Str} {hs : List (Nat × T)} {hds : List (Nat × Str)} {r : Str}
    (he : E.lam f = some (hs, .str r)) (hm : X.mg x = some (.ref g0)) (hk : PySem.W.keepIn X.K (.ref g0) = true)
    (lk : X.K.lookup g0 = some ⟨oc, od, .func (PySem.W.fnOf x x pg bg sg dV kV doc pm an cdv ct), osl⟩) (hcg : PySem.W.codeIn X.K cdv x = true)
    (hb : L2.Binds X.K (PySem.W.fnOf x x pg bg sg dV kV doc pm an cdv ct) [a] []) (Sg : FnScope Ng [a] sg) (hNg : Ng[0]? = some a) (hva : Vis sg a) (hd : (a == ("__debug__" : Str)) = false) (hcd : (a == ("__classdict__" : Str)) = false)
    (hG : LamX.GivesTo X Ng x sg g0 cdv bg a (X.env.qual ++ "<lambda>") (TTm X.K g hds r))
    (TB : LamX.TabB X.base X.mg c P) (hcode : X.env.code = .ref c) (hmT : (P, X.env.qual ++ "<lambda>") ∈ g.T) (hu : ∀ p ∈ g.T, p.1 = P → p.2 = X.env.qual ++ "<lambda>") (hr : Room (k + 2) X.A)
    (hx : ∀ p ∈ hs, ∃ s, p.2 = .str s ∧ ∀ (Q : VK) d H, Q (.str s) H → hOk X.K g Q hds (.ref (g.ea p.1)) d H)
    (hf : ∀ f2, (nmL f2).isSome = true → ∃ fd ps, FnOk X.prog X.w X.K X.mg X.base (L2.CX X.prog X.w) k (g.fa f2) fd ps (spF g E.callL f2 ps.length) ∧ PySem.W.keepIn X.K (.ref (g.fa f2)) = true ∧ Binds X.K fd ps [] ∧ (∀ ts S o, E.callL f2 ts S = some o → ts.length = ps.length) ∧ ∀ x2, nmL f2 = some x2 → X.mg x2 = some (.ref (g.fa f2)))
    (hfv : ∀ f2 ts S o, E.callL f2 ts S = some o → (nmL f2).isSome = true) : LamOk X g E nmL f x

structure XOk (G : Gm) (g : GW) (E : EV) (W : WX) (X : Cx) : Prop where
  N : X.N = G.N
  nd : G.N.Nodup
  sc : X.env.scope = G.sc
  K : X.K = g.K
  calm : X.calm = true
  fn : ∀ x, G.fnT x = true → X.fn x = true
  tk : Takes X W
  un : X.A.units + 64 < cLine
  blt : ∀ x, x ∈ G.blt → X.mg x = none
  call : ∀ f x, G.fname f = some x → CallOk X g E.call f ∧ X.mg x = some (.ref (g.fa f))
  callL : ∀ f x, G.fnameL f = some x → CallOk X g E.callL f ∧ X.mg x = some (.ref (g.fa f))
  callv : G.lv = false → ∀ f ts S o, E.call f ts S = some o → CallOk X g E.call f
  lam : ∀ f x, G.lamN f = some x → E.lam f ≠ none → LamOk X g E G.nmL f x
  callvL : G.lv = true → ∀ f ts S o, E.callL f ts S = some o → CallOk X g E.callL f
  cst : ∀ c x, G.cname c = some x → ∃ u v, X.mg x = some u ∧ L2.RelV v u ∧ ∀ fb m H, Rep (g.w fb) m H (E.cv c) v

def GoodT (g : GW) (W : WX) (m : List Addr) (σ : L2.St) (H : Hp) (Q : Bool → Hp → Prop) : Out → Prop
  | .ok t S' => ∃ b, truthy S' t = some b ∧ ∀ m' H', Ext m H m' H' → SRep g m' H' S' → Q b H'
  | .ex c p S' => ∀ cls d m' H', Ext m H m' H' → SRep g m' H' S' → XRep g H' c p cls d → W cls d σ H'
def tT (g : GW) (W : WX) (f : Rho → Sto → Res) : TT := fun σ H Q => ∃ fb m ρ S o, RS (g.w fb) m σ H ρ S ∧ f ρ S = some o ∧ GoodT (g.w fb) W m σ H Q o
def GoodO (g : GW) (W : WX) (nl : Bool) (m : List Addr) (σ : L2.St) (H : Hp) (Q : Option Int → Hp → Prop) : Out → Prop
  | .ok t S' => ∃ i, part nl t = some i ∧ ∀ m' H', Ext m H m' H' → SRep g m' H' S' → Q i H'
  | .ex c p S' => ∀ cls d m' H', Ext m H m' H' → SRep g m' H' S' → XRep g H' c p cls d → W cls d σ H'
def tO (g : GW) (W : WX) (nl : Bool) (f : Rho → Sto → Res) : TO := fun σ H Q => ∃ fb m ρ S o, RS (g.w fb) m σ H ρ S ∧ f ρ S = some o ∧ GoodO (g.w fb) W nl m σ H Q o

/-- the whole of a test -/
theorem tT_of {g : GW} {W : WX} {f : Rho → Sto → Res} {σ : L2.St} {H : Hp} {Q : Bool → Hp → Prop} (h : tT g W f σ H Q) : tE g W f σ H fun v H1 => ∃ b, TruV g.K v H1 b ∧ Q b H1 := by
  obtain ⟨fb, m, ρ, S, o, rs, e, G⟩ := h
  refine ⟨fb, m, ρ, S, o, rs, e, ?_⟩
  cases o with
  | ok t S' =>
    obtain ⟨b, hb, k⟩ := G
    exact fun v m' H' x sr r => ⟨b, tru_of sr r hb, k m' H' x sr⟩
  | ex c p S' => exact G

/-- the first part of a step, behind which a test stands -/
theorem tT_bnd {g : GW} {fb : List Addr} {W : WX} {f : Rho → Sto → Res} {k : T → Sto → Res} {m : List Addr} {σ : L2.St} {H : Hp} {ρ : Rho} {S : Sto} {o : Out} {Q : VK} {R : Bool → Hp → Prop}
    (h : bnd (f ρ S) k = some o) (rs : RS (g.w fb) m σ H ρ S) (G : GoodE (g.w fb) W m σ H Q o)
    (hk : ∀ t S1 m1 H1, k t S1 = some o → Ext m H m1 H1 → RS (g.w fb) m1 σ H1 ρ S1 → GoodE (g.w fb) W m1 σ H1 Q o → ∃ b, truthy S1 t = some b ∧ R b H1) (hb : ∀ t S1, k t S1 = some o → ∃ b, truthy S1 t = some b) : tT g W f σ H R := by
  cases e : f ρ S with
  | none => rw [e] at h; cases h
  | some r =>
    rw [e] at h
    refine ⟨fb, m, ρ, S, r, rs, e, ?_⟩
    cases r with
    | ok t S1 =>
      obtain ⟨b, eb⟩ := hb t S1 h
      refine ⟨b, eb, fun m1 H1 x sr => ?_⟩
      obtain ⟨b', eb', q⟩ := hk t S1 m1 H1 h x ⟨rs.env.mono x, sr⟩ (G.ext x)
      rw [eb] at eb'
      cases eb'
      exact q
    | ex c p S1 =>
      have : o = .ex c p S1 := (Option.some.inj h).symm
      subst this
      exact G

section
variable {G : Gm} {g : GW} {E : EV} {W : WX} {X : Cx}

/-- a chain of arguments comes to its items -/
theorem tA_of {fb : List Addr} {f : Rho → Sto → Res} {k : List T → Sto → Res} {m : List Addr} {σ : L2.St} {H : Hp} {ρ : Rho} {S : Sto} {o : Out} {Q : VK} {R : List V → Hp → Prop}
    (h : bnd (f ρ S) (fun x S1 => tups x fun l => k l S1) = some o) (rs : RS (g.w fb) m σ H ρ S) (Gd : GoodE (g.w fb) W m σ H Q o)
    (hk : ∀ l S1 vs m1 H1, k l S1 = some o → Ext m H m1 H1 → RS (g.w fb) m1 σ H1 ρ S1 → RepL (g.w fb) m1 H1 l vs → GoodE (g.w fb) W m1 σ H1 Q o → R vs H1) : tA g W f σ H R := by
  cases e : f ρ S with
  | none => rw [e] at h; cases h
  | some r =>
    rw [e] at h
    refine ⟨fb, m, ρ, S, r, rs, e, ?_⟩
    cases r with
    | ok t S1 =>
      cases t with
      | tup l => exact fun vs m1 H1 x sr rp => hk l S1 vs m1 H1 h x ⟨rs.env.mono x, sr⟩ rp (Gd.ext x)
      | _ => cases h
    | ex c p S1 =>
      have : o = .ex c p S1 := (Option.some.inj h).symm
      subst this
      exact Gd

/-! names and constants -/
theorem vName_eq {e : Expr} {x : Str} (h : vName e = some x) : ∃ p, e = .Name x p := by
  cases e <;> simp [vName] at h
  subst h; exact ⟨_, rfl⟩
theorem vConst_eq {e : Expr} {c : Const} (h : vConst e = some c) : ∃ k p, e = .Constant c k p := by
  cases e <;> simp [vConst] at h
  subst h; exact ⟨_, _, rfl⟩
theorem isNm_eq {o : Option Str} {x : Str} (h : isNm o x = true) : o = some x := by
  cases o with
  | none => cases h
  | some y => simp [isNm] at h; rw [h]
theorem glb_gl (xo : XOk G g E W X) {x : Str} (h : glb G x = true) : Gl X x ∧ (x == ("__debug__" : Str)) = false := by
  simp only [glb, isKind, dbg, Bool.and_eq_true, decide_eq_true_eq, Bool.not_eq_true'] at h
  refine ⟨?_, h.2.1⟩
  show X.env.scope.names.lookup x = _
  rw [xo.sc]
  exact h.1

theorem pe_lit (xo : XOk G g E W X) {v : T} {e : Expr} (h : lits G v e = true) : PE X e (tE g W fun _ S => some (.ok v S)) := by
  have fin : ∀ {w : V} {σ : L2.St} {H : Hp} {Q : VK}, (∀ fb m H, Rep (g.w fb) m H v w) → tE g W (fun _ S => some (.ok v S)) σ H Q → Q w H := fun {w σ H Q} r ⟨fb, m, ρ, S, o, rs, e, G⟩ => by
    simp only [Option.some.injEq] at e
    subst e
    exact fin_val G rs.sto (r _ _ _)
  cases v with
  | non =>
    simp only [lits] at h
    split at h
    · rename_i q
      obtain ⟨k, p, rfl⟩ := vConst_eq q
      exact pe_non.of fun σ H Q q => fin (fun _ _ _ => Rep.non_) q
    · cases h
  | bl b =>
    simp only [lits] at h
    split at h
    · rename_i c q
      obtain ⟨k, p, rfl⟩ := vConst_eq q
      have : b = c := by simpa using h
      subst this
      exact pe_bl.of fun σ H Q q => fin (fun _ _ _ => Rep.bl_) q
    · cases h
  | int b =>
    simp only [lits] at h
    split at h
    · rename_i c q
      obtain ⟨k, p, rfl⟩ := vConst_eq q
      have : b = c := by simpa using h
      subst this
      exact pe_int.of fun σ H Q q => fin (fun _ _ _ => Rep.int_) q
    · cases h
  | str b =>
    simp only [lits] at h
    split at h
    · rename_i c q
      obtain ⟨k, p, rfl⟩ := vConst_eq q
      have : b = c := by simpa using h
      subst this
      exact pe_str.of fun σ H Q q => fin (fun _ _ _ => Rep.str_) q
    · cases h
  | fn f =>
    simp only [lits] at h
    split at h
    · rename_i x q
      obtain ⟨p, rfl⟩ := vName_eq q
      simp only [Bool.and_eq_true] at h
      obtain ⟨gl, db⟩ := glb_gl xo h.2
      obtain ⟨_, hm⟩ := xo.call f x (isNm_eq h.1)
      exact (pe_glob (v := .ref (g.fa f)) gl hm rfl db).of fun σ H Q q => fin (fun _ _ _ => by simp [Rep, GW.w]) q
    · cases h
  | _ => cases h

theorem pe_v (xo : XOk G g E W X) {i : Nat} {e : Expr} (h : chkE G (.var i) e = true) : PE X e (tE g W (evE E (.var i))) := by
  simp only [chkE] at h
  split at h
  · rename_i x q
    obtain ⟨p, rfl⟩ := vName_eq q
    simp only [Bool.and_eq_true, decide_eq_true_eq, visB, isKind, Bool.or_eq_true, dbg, Bool.not_eq_true'] at h
    obtain ⟨⟨h1, h2⟩, h3, h4⟩ := h
    rw [← xo.sc] at h2
    rw [← xo.N] at h1
    refine (pe_var (i := i) h1 ?_ h3 h4).of fun σ H Q ⟨fb, m, ρ, S, o, rs, e, Gd⟩ => ?_
    · rcases h2 with (h2 | h2) | h2
      · exact .inl h2
      · exact .inr (.inl h2)
      · exact .inr (.inr h2)
    · simp only [evE] at e
      split at e
      · rename_i t ht
        simp only [Option.some.injEq] at e
        subst e
        obtain ⟨v, e1, e2⟩ := rs.env.2 i t ht
        exact ⟨v, e1, fin_val Gd rs.sto e2⟩
      · cases e
  · cases h

theorem pe_k (xo : XOk G g E W X) {c : Nat} {e : Expr} (h : chkE G (.cst c) e = true) : PE X e (tE g W (evE E (.cst c))) := by
  simp only [chkE] at h
  split at h
  · rename_i x q
    obtain ⟨p, rfl⟩ := vName_eq q
    simp only [Bool.and_eq_true] at h
    obtain ⟨gl, db⟩ := glb_gl xo h.2
    obtain ⟨u, v, hm, rv, rp⟩ := xo.cst c x (isNm_eq h.1)
    refine (pe_glob gl hm rv db).of fun σ H Q ⟨fb, m, ρ, S, o, rs, e, Gd⟩ => ?_
    simp only [evE, Option.some.injEq] at e
    subst e
    exact fin_val Gd rs.sto (rp _ _ _)
  · cases h

/-! displays -/
theorem pe_tu {es : IE} {xs : List Expr} {k : Nat} {p : Pos} (h : PA X xs (tA g W (evE E es))) : PE X (.Tuple xs k p) (tE g W (evE E (.tup es))) := by
  refine (pe_tup h).of fun σ H Q ⟨fb, m, ρ, S, o, rs, e, Gd⟩ => ?_
  simp only [evE] at e
  refine tA_of (k := fun l S1 => if l.length ≤ line then some (.ok (.tup l) S1) else none) e rs Gd fun l S1 vs m1 H1 ek x rs1 rp Gd1 => ?_
  split at ek
  · rename_i hl
    simp only [Option.some.injEq] at ek
    subst ek
    rw [line_eq, rp.length] at hl
    exact ⟨hl, fin_tup Gd1 rs1.sto rp⟩
  · cases ek
theorem pe_ls {bx : Bool} {es : IE} {xs : List Expr} {p : Pos} (h : PA X xs (tA g W (evE E es))) : PE X (.List xs p) (tE g W (evE E (.lst bx es))) := by
  refine (pe_lst h).of fun σ H Q ⟨fb, m, ρ, S, o, rs, e, Gd⟩ => ?_
  simp only [evE] at e
  refine tA_of (k := fun l S1 => if l.length ≤ line then some (newL bx (.lst l) S1) else none) e rs Gd fun l S1 vs m1 H1 ek x rs1 rp Gd1 => ?_
  split at ek
  · rename_i hl
    simp only [Option.some.injEq] at ek
    subst ek
    rw [line_eq, rp.length] at hl
    exact ⟨hl, fin_lst Gd1 rs1.sto rp⟩
  · cases ek
theorem starEach_cons {e : Expr} {r : List Expr} {env : Env} (h : noStar e = true) : starEach (e :: r) env = (false, eval e env) :: starEach r env := by
  cases e <;> first | rfl | cases h
theorem star_none {E : IE} (G : Gm) : ∀ (E : IE) (r : List Expr) (env : Env) (pos : Pos), chkA G E r = true → (backTo pos (starEach r env)).any (·.1) = false := fun E r env pos => by
  induction r generalizing E with
  | nil => intro _; rfl
  | cons e r ih =>
    intro h
    cases E <;> simp only [chkA] at h <;> try (cases h; done)
    simp only [Bool.and_eq_true] at h
    rw [starEach_cons h.2.1]
    have := ih _ h.2.2
    simpa [backTo] using this
theorem pa_n : PA X [] (tA g W (evE E .nil)) := pa_nil.of fun σ H Q ⟨fb, m, ρ, S, o, rs, e, Gd⟩ => by
  simp only [evE, Option.some.injEq] at e
  subst e
  exact Gd [] m H (Ext.refl _ _) rs.sto RepL.nil
theorem pa_c {a b : IE} {e : Expr} {r : List Expr} (ha : PE X e (tE g W (evE E a))) (hb : PA X r (tA g W (evE E b))) (hs : noStar e = true) : PA X (e :: r) (tA g W (evE E (.cons a b))) := by
  refine (pa_cons ha hb (starEach_cons hs)).of fun σ H Q ⟨fb, m, ρ, S, o, rs, e, Gd⟩ => ?_
  simp only [evE] at e
  cases ea : evE E a ρ S with
  | none => rw [ea] at e; cases e
  | some r =>
    rw [ea] at e
    refine ⟨fb, m, ρ, S, r, rs, ea, ?_⟩
    cases r with
    | ex c p S1 =>
      have : o = .ex c p S1 := (Option.some.inj e).symm
      subst this
      exact Gd
    | ok t S1 =>
      intro v m1 H1 x1 sr1 r1
      have rs1 : RS (g.w fb) m1 σ H1 ρ S1 := ⟨rs.env.mono x1, sr1⟩
      have e : bnd (evE E b ρ S1) (fun y S2 => tups y fun l => some (.ok (.tup (t :: l)) S2)) = some o := e
      cases eb : evE E b ρ S1 with
      | none => rw [eb] at e; cases e
      | some r2 =>
        rw [eb] at e
        refine ⟨fb, m1, ρ, S1, r2, rs1, eb, ?_⟩
        cases r2 with
        | ex c p S2 =>
          have : o = .ex c p S2 := (Option.some.inj e).symm
          subst this
          exact fun cls d m2 H2 x2 sr2 xr => Gd cls d m2 H2 (x1.trans x2) sr2 xr
        | ok u S2 =>
          cases u with
          | tup l =>
            have e : some (Out.ok (.tup (t :: l)) S2) = some o := e
            simp only [Option.some.injEq] at e
            subst e
            intro vs m2 H2 x2 sr2 r2
            exact Gd (v :: vs) m2 H2 (x1.trans x2) sr2 (RepL.cons (Rep.mono x2 t r1) r2)
          | _ => cases e

/-! operators -/
theorem pe_o {bx : Bool} {o : Operator} {a b : IE} {x y : Expr} {p : Pos} (xo : XOk G g E W X) (ha : PE X x (tE g W (evE E a))) (hb : PE X y (tE g W (evE E b))) : PE X (.BinOp x o y p) (tE g W (evE E (.op bx o a b))) := by
  refine (pe_op (op_bx xo.K o) ha hb).of fun σ H Q ⟨fb, m, ρ, S, o', rs, e, Gd⟩ => ?_
  simp only [evE] at e
  refine tE_bnd e rs Gd fun t S1 v m1 H1 e1 x1 rs1 r1 Gd1 => ?_
  refine tE_bnd e1 rs1 Gd1 fun u S2 w m2 H2 e2 x2 rs2 r2 Gd2 => ?_
  simp only [lift] at e2
  split at e2
  · rename_i z hz
    simp only [Option.some.injEq] at e2
    subst e2
    exact ⟨fb, W, m2, σ, S2, bx, _, _, z, rs2.sto, RepD.drf rs2.sto (Rep.mono x2 _ r1), RepD.drf rs2.sto r2, hz, Gd2⟩
  · cases e2
theorem noset_mark {o : CmpOp} {y : Expr} (h : noSet y = true) : behindInMarks o y = false := by
  cases y <;> first | rfl | cases h
theorem pe_cm {o : CmpOp} {a b : IE} {x y : Expr} {p : Pos} (xo : XOk G g E W X) (ha : PE X x (tE g W (evE E a))) (hb : PE X y (tE g W (evE E b))) (hs : noSet y = true) : PE X (.Compare x [o] [y] p) (tE g W (evE E (.cmp o a b))) := by
  refine (pe_cmpR (op_cx xo.K xo.un o) ha hb (noset_mark hs)).of fun σ H Q ⟨fb, m, ρ, S, o', rs, e, Gd⟩ => ?_
  simp only [evE] at e
  refine tE_bnd e rs Gd fun t S1 v m1 H1 e1 x1 rs1 r1 Gd1 => ?_
  refine tE_bnd e1 rs1 Gd1 fun u S2 w m2 H2 e2 x2 rs2 r2 Gd2 => ?_
  simp only [liftB] at e2
  split at e2
  · rename_i z hz
    simp only [Option.some.injEq] at e2
    subst e2
    exact ⟨fb, W, m2, σ, S2, _, _, z, rs2.sto, Rep.mono x2 _ r1, r2, hz, Gd2⟩
  · cases e2
/-- a test that a truth value answers -/
theorem tT_bool {f : Rho → Sto → Res} {σ : L2.St} {H : Hp} {Q : Bool → Hp → Prop} (h : tT g W f σ H Q) (hf : ∀ ρ S t S', f ρ S = some (.ok t S') → ∃ b, t = .bl b) : tE g W f σ H fun x H1 => ∃ k, x = .bl k ∧ Q k H1 := by
  obtain ⟨fb, m, ρ, S, o, rs, e, Gd⟩ := h
  refine ⟨fb, m, ρ, S, o, rs, e, ?_⟩
  cases o with
  | ex c p S' => exact Gd
  | ok t S' =>
    obtain ⟨b, eb, k⟩ := Gd
    intro v m' H' x sr r
    obtain ⟨b', rfl⟩ := hf _ _ _ _ e
    simp only [truthy, Option.some.injEq] at eb
    subst eb
    exact ⟨b', RepD.bl (RepD.of r), k m' H' x sr⟩
end
end Fw

namespace Fw
open PySem L2 PyProof.Rows

section
variable {G : Gm} {g : GW} {E : EV} {W : WX} {X : Cx}

theorem pe_ch {o o' : CmpOp} {a b c : IE} {x y z : Expr} {p : Pos} (xo : XOk G g E W X) (ha : PE X x (tE g W (evE E a))) (hb : PE X y (tE g W (evE E b))) (hc : PE X z (tE g W (evE E c)))
    (hs : noSet y = true) (hs' : noSet z = true) : PE X (.Compare x [o, o'] [y, z] p) (tE g W (evE E (.chn o o' a b c))) := by
  refine (pe_chain (op_cx xo.K xo.un o) (op_cx xo.K xo.un o') ha hb hc (by show lastMarks [o'] [z] = false; exact noset_mark hs')).of fun σ H Q ⟨fb, m, ρ, S, o', rs, e, Gd⟩ => ?_
  simp only [evE] at e
  refine tE_bnd e rs Gd fun t S1 v m1 H1 e1 x1 rs1 r1 Gd1 => ?_
  refine tE_bnd e1 rs1 Gd1 fun u S2 w m2 H2 e2 x2 rs2 r2 Gd2 => ?_
  split at e2
  · rename_i hz
    refine ⟨fb, W, m2, σ, S2, _, _, true, rs2.sto, Rep.mono x2 _ r1, r2, hz, fun v3 m3 H3 x3 sr3 r3 => ⟨true, by simpa [Rep] using r3, iteT ?_⟩⟩
    refine tE_bnd e2 ⟨rs2.env.mono x3, sr3⟩ (Gd2.ext x3) fun u' S4 w' m4 H4 e4 x4 rs4 r4 Gd4 => ?_
    simp only [liftB] at e4
    split at e4
    · rename_i z4 hz4
      simp only [Option.some.injEq] at e4
      subst e4
      exact ⟨fb, W, m4, σ, S4, _, _, z4, rs4.sto, Rep.mono x4 _ (Rep.mono x3 _ r2), r4, hz4, Gd4⟩
    · cases e4
  · rename_i hz
    simp only [Option.some.injEq] at e2
    subst e2
    refine ⟨fb, W, m2, σ, S2, _, _, false, rs2.sto, Rep.mono x2 _ r1, r2, hz, fun v3 m3 H3 x3 sr3 r3 => ⟨false, by simpa [Rep] using r3, iteF ?_⟩⟩
    exact Gd2 _ m3 H3 x3 sr3 Rep.bl_
  · cases e2

theorem pe_ng {a : IE} {x : Expr} {p : Pos} (ha : PE X x (tE g W (evE E a))) : PE X (.UnaryOp .USub x p) (tE g W (evE E (.neg a))) := by
  refine (pe_un un_ng ha).of fun σ H Q ⟨fb, m, ρ, S, o', rs, e, Gd⟩ => ?_
  simp only [evE] at e
  refine tE_bnd e rs Gd fun t S1 v m1 H1 e1 x1 rs1 r1 Gd1 => ?_
  split at e1
  · rename_i t' hn
    simp only [Option.some.injEq] at e1
    subst e1
    unfold negT at hn
    split at hn
    · simp only [Option.some.injEq] at hn
      subst hn
      exact ⟨_, .inl ⟨⟨_, RepD.int (RepD.of r1), rfl⟩, fin_val Gd1 rs1.sto Rep.int_⟩⟩
    · simp only [Option.some.injEq] at hn
      subst hn
      exact ⟨_, .inr ⟨⟨_, RepD.bl (RepD.of r1), rfl⟩, fin_val Gd1 rs1.sto Rep.int_⟩⟩
    · cases hn
  · cases e1

theorem pe_nt {a : IE} {x : Expr} {p : Pos} (xo : XOk G g E W X) (ha : PE X x (tE g W (evE E a))) : PE X (.UnaryOp .Not x p) (tE g W (evE E (.not a))) := by
  refine (pe_notT ha).of fun σ H Q ⟨fb, m, ρ, S, o', rs, e, Gd⟩ => ?_
  simp only [evE] at e
  refine tE_bnd e rs Gd fun t S1 v m1 H1 e1 x1 rs1 r1 Gd1 => ?_
  split at e1
  · rename_i b hb
    simp only [Option.some.injEq] at e1
    subst e1
    exact ⟨b, by rw [xo.K]; exact tru_of rs1.sto r1 hb, fin_val Gd1 rs1.sto Rep.bl_⟩
  · cases e1

theorem and_of {a b : IE} {σ : L2.St} {H : Hp} {Q : VK} (h : tE g W (evE E (.and a b)) σ H Q) : tAndT g.K (tE g W (evE E a)) (tE g W (evE E b)) σ H Q := by
  obtain ⟨fb, m, ρ, S, o', rs, e, Gd⟩ := h
  simp only [evE] at e
  refine tE_bnd e rs Gd fun t S1 v m1 H1 e1 x1 rs1 r1 Gd1 => ?_
  split at e1
  · rename_i hb
    exact ⟨true, tru_of rs1.sto r1 hb, iteT ⟨fb, m1, ρ, S1, o', rs1, e1, Gd1⟩⟩
  · rename_i hb
    simp only [Option.some.injEq] at e1
    subst e1
    exact ⟨false, tru_of rs1.sto r1 hb, iteF (fin_val Gd1 rs1.sto r1)⟩
  · cases e1
theorem or_of {a b : IE} {σ : L2.St} {H : Hp} {Q : VK} (h : tE g W (evE E (.or a b)) σ H Q) : tOrT g.K (tE g W (evE E a)) (tE g W (evE E b)) σ H Q := by
  obtain ⟨fb, m, ρ, S, o', rs, e, Gd⟩ := h
  simp only [evE] at e
  refine tE_bnd e rs Gd fun t S1 v m1 H1 e1 x1 rs1 r1 Gd1 => ?_
  split at e1
  · rename_i hb
    simp only [Option.some.injEq] at e1
    subst e1
    exact ⟨true, tru_of rs1.sto r1 hb, iteT (fin_val Gd1 rs1.sto r1)⟩
  · rename_i hb
    exact ⟨false, tru_of rs1.sto r1 hb, iteF ⟨fb, m1, ρ, S1, o', rs1, e1, Gd1⟩⟩
  · cases e1

theorem vAnd_eq {e x y : Expr} (h : vAnd e = some (x, y)) : (∃ p, e = .BoolOp .And [x, y] p) ∨ ∃ z w r p, e = .BoolOp .And (x :: z :: w :: r) p ∧ y = .BoolOp .And (z :: w :: r) p := by
  unfold vAnd at h
  split at h
  · simp only [Option.some.injEq, Prod.mk.injEq] at h
    obtain ⟨rfl, rfl⟩ := h
    exact .inl ⟨_, rfl⟩
  · simp only [Option.some.injEq, Prod.mk.injEq] at h
    obtain ⟨rfl, rfl⟩ := h
    exact .inr ⟨_, _, _, _, rfl, rfl⟩
  · cases h
theorem vOr_eq {e x y : Expr} (h : vOr e = some (x, y)) : (∃ p, e = .BoolOp .Or [x, y] p) ∨ ∃ z w r p, e = .BoolOp .Or (x :: z :: w :: r) p ∧ y = .BoolOp .Or (z :: w :: r) p := by
  unfold vOr at h
  split at h
  · simp only [Option.some.injEq, Prod.mk.injEq] at h
    obtain ⟨rfl, rfl⟩ := h
    exact .inl ⟨_, rfl⟩
  · simp only [Option.some.injEq, Prod.mk.injEq] at h
    obtain ⟨rfl, rfl⟩ := h
    exact .inr ⟨_, _, _, _, rfl, rfl⟩
  · cases h

theorem pe_an {a b : IE} {e x y : Expr} (xo : XOk G g E W X) (hv : vAnd e = some (x, y)) (ha : PE X x (tE g W (evE E a))) (hb : PE X y (tE g W (evE E b))) : PE X e (tE g W (evE E (.and a b))) := by
  rcases vAnd_eq hv with ⟨p, rfl⟩ | ⟨z, w, r, p, rfl, rfl⟩
  · exact (pe_andT ha (pe_one hb)).of fun σ H Q h => by rw [xo.K]; exact and_of h
  · exact (pe_andT ha hb).of fun σ H Q h => by rw [xo.K]; exact and_of h
theorem pe_orr {a b : IE} {e x y : Expr} (xo : XOk G g E W X) (hv : vOr e = some (x, y)) (ha : PE X x (tE g W (evE E a))) (hb : PE X y (tE g W (evE E b))) : PE X e (tE g W (evE E (.or a b))) := by
  rcases vOr_eq hv with ⟨p, rfl⟩ | ⟨z, w, r, p, rfl, rfl⟩
  · exact (pe_orT ha (pe_one hb)).of fun σ H Q h => by rw [xo.K]; exact or_of h
  · exact (pe_orT ha hb).of fun σ H Q h => by rw [xo.K]; exact or_of h

/-! tests -/
/-- the first part of a test -/
theorem tT_part {fb : List Addr} {f : Rho → Sto → Res} {k : T → Sto → Res} {m : List Addr} {σ : L2.St} {H : Hp} {ρ : Rho} {S : Sto} {o : Out} {Q R : Bool → Hp → Prop}
    (h : bnd (f ρ S) k = some o) (rs : RS (g.w fb) m σ H ρ S) (G : GoodT (g.w fb) W m σ H Q o)
    (hb : ∀ t S1, k t S1 = some o → ∃ b, truthy S1 t = some b ∧ ∀ m1 H1, Ext m H m1 H1 → RS (g.w fb) m1 σ H1 ρ S1 → R b H1) : tT g W f σ H R := by
  cases e : f ρ S with
  | none => rw [e] at h; cases h
  | some r =>
    rw [e] at h
    refine ⟨fb, m, ρ, S, r, rs, e, ?_⟩
    cases r with
    | ok t S1 =>
      obtain ⟨b, eb, q⟩ := hb t S1 h
      exact ⟨b, eb, fun m1 H1 x sr => q m1 H1 x ⟨rs.env.mono x, sr⟩⟩
    | ex c p S1 =>
      have : o = .ex c p S1 := (Option.some.inj h).symm
      subst this
      exact G

/-- what a test's end is to reach, in a grown heap -/
theorem tT_ext {fb : List Addr} {f : Rho → Sto → Res} {m m1 : List Addr} {σ : L2.St} {H H1 : Hp} {ρ : Rho} {S : Sto} {o : Out} {Q : Bool → Hp → Prop} (x : Ext m H m1 H1) (rs : RS (g.w fb) m1 σ H1 ρ S) (e : f ρ S = some o)
    (G : GoodT (g.w fb) W m σ H Q o) : tT g W f σ H1 Q := by
  refine ⟨fb, m1, ρ, S, o, rs, e, ?_⟩
  cases o with
  | ok t S' =>
    obtain ⟨b, eb, q⟩ := G
    exact ⟨b, eb, fun m' H' x' sr => q m' H' (x.trans x') sr⟩
  | ex c p S' => exact fun cls d m' H' x' sr xr => G cls d m' H' (x.trans x') sr xr

theorem tand_of {a b : IE} {σ : L2.St} {H : Hp} {Q : Bool → Hp → Prop} (h : tT g W (evE E (.and a b)) σ H Q) : tAnd (tT g W (evE E a)) (tT g W (evE E b)) σ H Q := by
  obtain ⟨fb, m, ρ, S, o', rs, e, Gd⟩ := h
  simp only [evE] at e
  refine tT_part e rs Gd fun t S1 e1 => ?_
  split at e1
  · rename_i hb
    exact ⟨true, hb, fun m1 H1 x1 rs1 => iteT (tT_ext x1 rs1 e1 Gd)⟩
  · rename_i hb
    simp only [Option.some.injEq] at e1
    subst e1
    obtain ⟨b, eb, q⟩ := Gd
    rw [hb] at eb
    cases eb
    exact ⟨false, hb, fun m1 H1 x1 rs1 => iteF (q m1 H1 x1 rs1.sto)⟩
  · cases e1
theorem tor_of {a b : IE} {σ : L2.St} {H : Hp} {Q : Bool → Hp → Prop} (h : tT g W (evE E (.or a b)) σ H Q) : tOr (tT g W (evE E a)) (tT g W (evE E b)) σ H Q := by
  obtain ⟨fb, m, ρ, S, o', rs, e, Gd⟩ := h
  simp only [evE] at e
  refine tT_part e rs Gd fun t S1 e1 => ?_
  split at e1
  · rename_i hb
    simp only [Option.some.injEq] at e1
    subst e1
    obtain ⟨b, eb, q⟩ := Gd
    rw [hb] at eb
    cases eb
    exact ⟨true, hb, fun m1 H1 x1 rs1 => iteT (q m1 H1 x1 rs1.sto)⟩
  · rename_i hb
    exact ⟨false, hb, fun m1 H1 x1 rs1 => iteF (tT_ext x1 rs1 e1 Gd)⟩
  · cases e1
theorem pw_bool {op : BoolOp} {es : List Expr} {p : Pos} {t : TT} (h : PT X (.BoolOp op es p) t) : PW X (.BoolOp op es p) t :=
  ⟨fun whole pins s σ H Q I q => by
    have z := h.run pins s σ H Q I q
    exact z⟩
theorem pt_an {a b : IE} {e x y : Expr} (hv : vAnd e = some (x, y)) (ha : PT X x (tT g W (evE E a))) (hb : PT X y (tT g W (evE E b))) : PT X e (tT g W (evE E (.and a b))) := by
  rcases vAnd_eq hv with ⟨p, rfl⟩ | ⟨z, w, r, p, rfl, rfl⟩
  · exact (pw_and ha (pw_and1 hb)).pt.of fun σ H Q h => tand_of h
  · exact (pw_and ha (pw_bool hb)).pt.of fun σ H Q h => tand_of h
theorem pt_orr {a b : IE} {e x y : Expr} (hv : vOr e = some (x, y)) (ha : PT X x (tT g W (evE E a))) (hb : PT X y (tT g W (evE E b))) : PT X e (tT g W (evE E (.or a b))) := by
  rcases vOr_eq hv with ⟨p, rfl⟩ | ⟨z, w, r, p, rfl, rfl⟩
  · exact (pw_or ha (pw_or1 hb)).pt.of fun σ H Q h => tor_of h
  · exact (pw_or ha (pw_bool hb)).pt.of fun σ H Q h => tor_of h
theorem pt_nt {a : IE} {x : Expr} {p : Pos} (ha : PT X x (tT g W (evE E a))) : PT X (.UnaryOp .Not x p) (tT g W (evE E (.not a))) := by
  refine (pt_not ha).of fun σ H Q ⟨fb, m, ρ, S, o', rs, e, Gd⟩ => ?_
  simp only [evE] at e
  refine tT_part e rs Gd fun t S1 e1 => ?_
  split at e1
  · rename_i b hb
    simp only [Option.some.injEq] at e1
    subst e1
    obtain ⟨b', eb, q⟩ := Gd
    simp only [truthy, Option.some.injEq] at eb
    subst eb
    exact ⟨b, hb, fun m1 H1 x1 rs1 => q m1 H1 x1 rs1.sto⟩
  · cases e1
/-- a test by its value -/
theorem pt_tr {f : Rho → Sto → Res} {x : Expr} (xo : XOk G g E W X) (ha : PE X x (tE g W f)) (he : ∀ whole, isTrue x X.env whole = (do let v ← whole; standAt x.pos; holding [v] (PySem.truthy v))) : PT X x (tT g W f) :=
  (pt_truth ha he).of fun σ H Q h => by
    have := tT_of h
    rw [xo.K]
    exact this
/-- .. where it is True or False -/
theorem tT_tB {f : Rho → Sto → Res} (hf : ∀ ρ S t S', f ρ S = some (.ok t S') → ∃ b, t = .bl b) {σ : L2.St} {H : Hp} {Q : Bool → Hp → Prop} (h : tT g W f σ H Q) : tE g W f σ H fun x H1 => ∃ c, x = .bl c ∧ Q c H1 := tT_bool h hf

theorem pe_if {c a b : IE} {z x y : Expr} {p : Pos} (hc : PT X z (tT g W (evE E c))) (ha : PE X x (tE g W (evE E a))) (hb : PE X y (tE g W (evE E b))) : PE X (.IfExp z x y p) (tE g W (evE E (.ite c a b))) := by
  refine (pe_ifExp hc ha hb).of fun σ H Q ⟨fb, m, ρ, S, o', rs, e, Gd⟩ => ?_
  simp only [evE] at e
  refine tT_bnd e rs Gd (fun t S1 m1 H1 e1 x1 rs1 Gd1 => ?_) fun t S1 e1 => ?_
  · split at e1
    · rename_i hb
      exact ⟨true, hb, iteT ⟨fb, m1, ρ, S1, o', rs1, e1, Gd1⟩⟩
    · rename_i hb
      exact ⟨false, hb, iteF ⟨fb, m1, ρ, S1, o', rs1, e1, Gd1⟩⟩
    · cases e1
  · split at e1
    · rename_i hb; exact ⟨true, hb⟩
    · rename_i hb; exact ⟨false, hb⟩
    · cases e1
theorem cmp_bl {o : CmpOp} {a b : IE} (ρ : Rho) (S : Sto) (t : T) (S' : Sto) (h : evE E (.cmp o a b) ρ S = some (.ok t S')) : ∃ k, t = .bl k := by
  simp only [evE] at h
  cases e1 : evE E a ρ S with
  | none => rw [e1] at h; cases h
  | some r1 =>
    rw [e1] at h
    cases r1 with
    | ex c p S1 => cases h
    | ok x S1 =>
      have h : bnd (evE E b ρ S1) (fun y S2 => liftB (cop S2 o x y) S2) = some (.ok t S') := h
      cases e2 : evE E b ρ S1 with
      | none => rw [e2] at h; cases h
      | some r2 =>
        rw [e2] at h
        cases r2 with
        | ex c p S2 => cases h
        | ok y S2 =>
          have h : liftB (cop S2 o x y) S2 = some (.ok t S') := h
          simp only [liftB] at h
          split at h
          · simp only [Option.some.injEq, Out.ok.injEq] at h
            exact ⟨_, h.1.symm⟩
          · cases h
theorem chn_bl {o o' : CmpOp} {a b c : IE} (ρ : Rho) (S : Sto) (t : T) (S' : Sto) (h : evE E (.chn o o' a b c) ρ S = some (.ok t S')) : ∃ k, t = .bl k := by
  simp only [evE] at h
  cases e1 : evE E a ρ S with
  | none => rw [e1] at h; cases h
  | some r1 =>
    rw [e1] at h
    cases r1 with
    | ex c p S1 => cases h
    | ok x S1 =>
      simp only [bnd] at h
      cases e2 : evE E b ρ S1 with
      | none => rw [e2] at h; cases h
      | some r2 =>
        rw [e2] at h
        cases r2 with
        | ex c p S2 => cases h
        | ok y S2 =>
          simp only at h
          split at h
          · cases e3 : evE E c ρ S2 with
            | none => rw [e3] at h; cases h
            | some r3 =>
              rw [e3] at h
              cases r3 with
              | ex c p S3 => cases h
              | ok z S3 =>
                simp only [liftB] at h
                split at h
                · simp only [Option.some.injEq, Out.ok.injEq] at h
                  exact ⟨_, h.1.symm⟩
                · cases h
          · simp only [Option.some.injEq, Out.ok.injEq] at h
            exact ⟨_, h.1.symm⟩
          · cases h
theorem pt_cm {o : CmpOp} {a b : IE} {x y : Expr} {p : Pos} (xo : XOk G g E W X) (ha : PE X x (tE g W (evE E a))) (hb : PE X y (tE g W (evE E b))) (hs : noSet y = true) : PT X (.Compare x [o] [y] p) (tT g W (evE E (.cmp o a b))) := by
  refine (pt_cmpR (op_cx xo.K xo.un o) ha hb (noset_mark hs)).of fun σ H Q h => ?_
  obtain ⟨fb, m, ρ, S, o', rs, e, Gd⟩ := tT_bool h cmp_bl
  simp only [evE] at e
  refine tE_bnd e rs Gd fun t S1 v m1 H1 e1 x1 rs1 r1 Gd1 => ?_
  refine tE_bnd e1 rs1 Gd1 fun u S2 w m2 H2 e2 x2 rs2 r2 Gd2 => ?_
  simp only [liftB] at e2
  split at e2
  · rename_i z hz
    simp only [Option.some.injEq] at e2
    subst e2
    exact ⟨fb, W, m2, σ, S2, _, _, z, rs2.sto, Rep.mono x2 _ r1, r2, hz, Gd2⟩
  · cases e2
end
end Fw

/-! t[::-1] -/
namespace HT
open PySem PyProof.Rows L2
section
variable {prog : Program} {w : World} {A : Around} {E : Value → Shared → Prop} {s : Shared}
theorem sliceApplied_rev {sl : Addr} {vs : Value} {n : Nat} {Q : Int × Int × Nat → Shared → Prop} (hs : s.heap.IsSliceOf sl .none .none vs) (ps : IsPart vs (some (-1)))
    (h : Q ((n : Int) - 1, -1, n) s) : wpAny (model prog w) A (Builtin.Slice.sliceApplied (.ref sl) (pure (n : Int))) Q E s := by
  obtain ⟨os, hos, hcs, hds⟩ := id hs
  unfold Builtin.Slice.sliceApplied Builtin.Slice.sliceFields
  refine wpAny_bind (wpAny_bind (wpAny_field hos hds (x := .none) rfl (wpAny_bind (wpAny_field hos hds (x := .none) rfl (wpAny_bind (wpAny_field hos hds (x := vs) rfl (wpAny_pure ?_)))))))
  refine wpAny_bind (slicePart_ ps ?_)
  show wpAny _ _ (if ((-1 : Int) == 0) = true then _ else _) _ _ s
  rw [if_neg (by decide)]
  refine wpAny_bind (slicePart_none (wpAny_bind (slicePart_none (wpAny_bind (wpAny_pure ?_)))))
  show wpAny _ _ (pure ((n : Int) - 1, (-1 : Int), Builtin.Slice.slicePlaces ((n : Int) - 1) (-1) (-1))) _ _ s
  have e : Builtin.Slice.slicePlaces ((n : Int) - 1) (-1) (-1) = n := by
    unfold Builtin.Slice.slicePlaces
    have h1 : ¬ ((-1 : Int) > 0) := by omega
    simp only [h1, if_false]
    have h2 : -(-1 : Int) = 1 := rfl
    rw [h2, Int.ediv_one]
    split <;> omega
  rw [e]
  exact wpAny_pure h
theorem fm_congr {α β : Type} {f g : α → Option β} : ∀ (l : List α), (∀ m ∈ l, f m = g m) → l.filterMap f = l.filterMap g
  | [], _ => rfl
  | a :: r, h => by
    rw [List.filterMap_cons, List.filterMap_cons, h a List.mem_cons_self, fm_congr r fun m hm => h m (List.mem_cons_of_mem _ hm)]
theorem pick_rev (xs : Array Value) : ((List.range xs.size).filterMap fun (m : Nat) => xs[(((xs.size : Int) - 1) + (m : Int) * (-1)).toNat]?).toArray = xs.toList.reverse.toArray := by
  congr 1
  have e := fm_congr (f := fun (m : Nat) => xs[(((xs.size : Int) - 1) + (m : Int) * (-1)).toNat]?) (g := fun (m : Nat) => xs.reverse[m]?) (List.range xs.size) fun m hm => by
    have hm' : m < xs.size := List.mem_range.mp hm
    have : (((xs.size : Int) - 1) + (m : Int) * (-1)).toNat = xs.size - 1 - m := by omega
    rw [this]
    rw [Array.getElem?_reverse hm']
  rw [e]
  have := PySem.W.krv_all xs.reverse
  rw [Array.size_reverse] at this
  rw [this]
  simp
theorem getItem_tuple_rev {t sl : Addr} {items : Array Value} {vs : Value} {Q : Value → Shared → Prop} (ht : IsTup s.heap t items) (hs : s.heap.IsSliceOf sl .none .none vs) (ps : IsPart vs (some (-1)))
    (h : Q (.ref s.heap.objs.size) { s with heap := s.heap.push { cls := .type "tuple", data := .seq items.toList.reverse.toArray } })
    (hsz : items.size ≤ sizeLine) : wpAny (model prog w) A (getItem (.ref t) (.ref sl)) Q E s := by
  have htake : sizeOk (.seq items.toList.reverse.toArray) := by
    show items.toList.reverse.toArray.size ≤ sizeLine
    rw [List.size_toArray, List.length_reverse, Array.length_toList]
    exact hsz
  obtain ⟨os, hos, hcs, hds⟩ := id hs
  have hTs : s.TypeIs (.ref sl) "slice" := ⟨os, hos, hcs⟩
  unfold getItem
  try with_reducible refine wpAny_holding ?_
  first | refine wpAny_bind (wpAny_pure ?_) | skip
  refine wpAny_bind (wpAny_sequenceKey ht.typeIs (by decide) ?_)
  refine wpAny_bind (wpAny_callSpecial?_slot (name := Str.ofString "__getitem__") ht.typeIs PyProof.Rows.slot_tuple_getitem
    (wpAny_call_entry PyProof.Rows.slot_tuple_getitem ht.typeIs entry_tuple_getitem ?_ (args_tuple_getitem _ _)))
  show wpAny _ _ (Builtin.Tuple.tupleItemsOf (.ref t) >>= _) _ _ s
  refine wpAny_bind (tupleItemsOf_ ht ?_)
  refine wpAny_bind (wpAny_typeOf hTs ?_)
  rw [if_pos (by decide)]
  refine wpAny_bind (sliceApplied_rev hs ps ?_)
  have hno : ¬ ((((items.size : Int) - 1) == 0 && (-1 : Int) == 1 && items.size == items.size) = true) := by
    intro q
    rw [Bool.and_eq_true, Bool.and_eq_true] at q
    exact absurd q.1.2 (by decide)
  show wpAny _ _ (if (((items.size : Int) - 1) == 0 && (-1 : Int) == 1 && items.size == items.size) = true then _ else _) _ _ s
  rw [if_neg hno, pick_rev]
  first
    | exact wpAny_bind (m := Builtin.Tuple.tupleExact _) (wpAny_newObj_type (wpAny_pure ⟨_, rfl, wpAny_pure h⟩) htake)
    | exact wpAny_bind (m := Builtin.Tuple.tupleExact _) (wpAny_newObj_type (wpAny_bind (wpAny_pure (wpAny_pure ⟨_, rfl, wpAny_pure h⟩))) htake)
    | exact wpAny_bind (wpAny_bind (m := Builtin.Tuple.tupleExact _) (wpAny_newObj_type (wpAny_pure (wpAny_pure ⟨_, rfl, wpAny_pure h⟩)) htake))
    | exact wpAny_bind (wpAny_bind (m := Builtin.Tuple.tupleExact _) (wpAny_newObj_type (wpAny_pure ⟨_, rfl, wpAny_pure h⟩) htake))
end
end HT

namespace L2
open PySem PySem.Spec PyProof.Rows
section
variable {X : Cx}
/-- xs[::-1], t[::-1] -/
def tRevA (K : PySem.W.Frag) (te : TE) : TE := fun σ H Q => te σ H fun x H1 => ∃ a xs, x = .ref a ∧
  ((SqL K H1 a xs ∧ ∀ p, H1 p = none → Q (.ref p) (upd H1 p (.lst xs.reverse))) ∨ (SqT K H1 a xs ∧ ∀ p, H1 p = none → Q (.ref p) (upd H1 p (.tup xs.reverse))))
theorem pe_revA {e : Expr} {te : TE} {k : Nat} {p1 p2 p3 pos : Pos} (he : PE X e te) : PE X (.Subscript e (.Slice none none (some (.UnaryOp .USub (.Constant (.int 1) k p1) p2)) p3) pos) (tRevA X.K te) := by
  refine ⟨fun pins s σ H Q I h => ?_⟩
  refine Subscript_ (thn (he.run pins s σ H _ I h) fun v s1 ⟨x, H1, I1, r1, q1⟩ => ?_)
  obtain ⟨a, xs, ex, q⟩ := q1
  subst ex
  cases r1
  have hst : PO X (some (.UnaryOp .USub (.Constant (.int 1) k p1) p2)) (tPart (tUn (rU fun i => .int (-i)) (tC (.int 1)))) := po_some (pe_un un_neg pe_int)
  have hno : ∀ {s : Shared} {Q : Value → Shared → Prop}, Inv X pins σ H1 s → (∀ s', Inv X pins σ H1 s' → Q .none s') → wpAny (model X.prog X.w) X.A (valueOrNone (evalOpt none X.env)) Q X.xe s := fun {s Q} I h => by
    show wpAny _ _ (pure Value.none) _ _ _
    exact wpAny_pure (h s I)
  refine wpAny_Slice (hno I1 fun s2 I2 => hno I2 fun s3 I3 => ?_)
  refine thn (hst.run pins s3 σ H1 (fun o H4 => o = some (-1) ∧ H4 = H1) I3 ⟨1, rfl, -1, rfl, rfl, rfl⟩) fun vs s4 ⟨o, H4, I4, ps, eo, e4⟩ => ?_
  subst eo
  rw [e4] at I4
  have I5 : Inv X pins σ H1 { s4 with heap := s4.heap.push { cls := .type "slice", data := .fields #[.none, .none, vs] } } := I4.kept (t' := s4.toks) fun b ob q => Heap.get?_push_of_some _ q
  show wpAny (model X.prog X.w) X.A (subscriptTail e (.Slice none none (some (.UnaryOp .USub (.Constant (.int 1) k p1) p2)) p3) (.ref a) (.ref s4.heap.objs.size)) (EP X pins σ Q) X.xe { s4 with heap := s4.heap.push { cls := .type "slice", data := .fields #[.none, .none, vs] } }
  rcases q with ⟨hx, q⟩ | ⟨hx, q⟩
  · obtain ⟨its, r, ht, hz⟩ := I5.list hx
    have hlen := r.length
    refine tail_any (ops := [.ref a, .ref s4.heap.objs.size]) ht.isList.typeIs (PySem.slot_list_getitem.lookup) ?_ (by with_unfolding_all rfl)
    refine wpAny_getItem_list_slice ht.isList (Heap.IsSliceOf.new _ .none .none vs) .none .none ps (by decide) ?_ (by rw [List.size_toArray]; omega)
    rw [PySem.W.krv_pick]
    refine ⟨.ref _, _, I5.laid (t' := s4.toks) (o := .lst xs.reverse) (fun b ob q => Heap.get?_push_of_some _ q) (Nat.le_refl _) ?_, rfl, q _ (I5.hok.fresh (Nat.le_refl _))⟩
    exact ⟨by rw [List.length_reverse]; exact hz, _, 0, r.reverse, Heap.get?_push_size _ rfl⟩
  · obtain ⟨its, r, ht, hz⟩ := I5.tuple hx
    have hlen := r.length
    refine tail_any (ops := [.ref a, .ref s4.heap.objs.size]) ht.typeIs (PyProof.Rows.slot_tuple_getitem.lookup) ?_ (by with_unfolding_all rfl)
    refine HT.getItem_tuple_rev ht (Heap.IsSliceOf.new _ .none .none vs) ps ?_ (by rw [List.size_toArray]; omega)
    refine ⟨.ref _, _, I5.laid (t' := s4.toks) (o := .tup xs.reverse) (fun b ob q => Heap.get?_push_of_some _ q) (Nat.le_refl _) ?_, rfl, q _ (I5.hok.fresh (Nat.le_refl _))⟩
    exact ⟨by rw [List.length_reverse]; exact hz, _, r.reverse, _, Heap.get?_push_size _ rfl, rfl, 0, rfl⟩
end
end L2

namespace Fw
open PySem L2 PyProof.Rows

section
variable {G : Gm} {g : GW} {E : EV} {W : WX} {X : Cx}

/-! subscripts, slices -/
theorem vIx_eq {e x y : Expr} (h : vIx e = some (x, y)) : ∃ p, e = .Subscript x y p ∧ PlainIx y := by
  cases e with
  | Subscript a b p =>
    cases b <;> simp [vIx] at h
    all_goals
      obtain ⟨rfl, rfl⟩ := h
      exact ⟨p, rfl, fun _ _ => rfl⟩
  | _ => simp [vIx] at h
theorem pe_i {a b : IE} {e x y : Expr} (xo : XOk G g E W X) (hv : vIx e = some (x, y)) (ha : PE X x (tE g W (evE E a))) (hb : PE X y (tE g W (evE E b))) : PE X e (tE g W (evE E (.ix a b))) := by
  obtain ⟨p, rfl, hp⟩ := vIx_eq hv
  refine (pe_ix (ix_x xo.K) ha hb hp).of fun σ H Q ⟨fb, m, ρ, S, o', rs, e, Gd⟩ => ?_
  simp only [evE] at e
  refine tE_bnd e rs Gd fun t S1 v m1 H1 e1 x1 rs1 r1 Gd1 => ?_
  refine tE_bnd e1 rs1 Gd1 fun u S2 w m2 H2 e2 x2 rs2 r2 Gd2 => ?_
  simp only [lift] at e2
  split at e2
  · rename_i z hz
    simp only [Option.some.injEq] at e2
    subst e2
    have Gd3 : GoodE (g.w fb) W m2 σ H2 Q (.ok z S2) := by
      cases z <;> exact Gd2
    exact ⟨fb, W, m2, σ, S2, _, _, z, rs2.sto, Rep.mono x2 _ r1, r2, hz, Gd3⟩
  · cases e2

theorem po_of {a : IE} {o : Option Expr} (hc : o = none → isNil a = true) (hs : ∀ e, o = some e → isNil a = false ∧ PE X e (tE g W (evE E a))) : PO X o (tO g W (isNil a) (evE E a)) := by
  cases o with
  | none =>
    have hn := hc rfl
    cases a <;> simp [isNil] at hn
    refine ⟨fun pins s σ H Q I q => ?_⟩
    refine po_none.run pins s σ H Q I ?_
    obtain ⟨fb, m, ρ, S, o', rs, e, Gd⟩ := q
    simp only [evE, Option.some.injEq] at e
    subst e
    obtain ⟨i, ei, k⟩ := Gd
    simp only [part, isNil, if_true, Option.some.injEq] at ei
    subst ei
    exact k m H (Ext.refl _ _) rs.sto
  | some e =>
    obtain ⟨hn, h⟩ := hs e rfl
    refine ⟨fun pins s σ H Q I q => ?_⟩
    refine (po_some h).run pins s σ H Q I ?_
    obtain ⟨fb, m, ρ, S, o', rs, e, Gd⟩ := q
    refine ⟨fb, m, ρ, S, o', rs, e, ?_⟩
    cases o' with
    | ex c p S' => exact Gd
    | ok t S' =>
      obtain ⟨i, ei, k⟩ := Gd
      intro v m' H' x sr r
      rw [hn] at ei
      simp only [part, Bool.false_eq_true, if_false] at ei
      split at ei
      · rename_i j
        simp only [Option.some.injEq] at ei
        subst ei
        exact ⟨j, RepD.int (RepD.of r), k m' H' x sr⟩
      · cases ei
theorem vSl_eq {e x : Expr} {l h : Option Expr} (q : vSl e = some (x, l, h)) : ∃ p p2, e = .Subscript x (.Slice l h none p2) p := by
  unfold vSl at q
  split at q
  · simp only [Option.some.injEq, Prod.mk.injEq] at q
    obtain ⟨rfl, rfl, rfl⟩ := q
    exact ⟨_, _, rfl⟩
  · cases q
theorem tO_part {nl : Bool} {fb : List Addr} {f : Rho → Sto → Res} {k : T → Sto → Res} {m : List Addr} {σ : L2.St} {H : Hp} {ρ : Rho} {S : Sto} {o : Out} {Q : VK} {R : Option Int → Hp → Prop}
    (h : bnd (f ρ S) k = some o) (rs : RS (g.w fb) m σ H ρ S) (G : GoodE (g.w fb) W m σ H Q o) (hp : ∀ t S1, k t S1 = some o → ∃ i, part nl t = some i)
    (hb : ∀ t S1 i m1 H1, k t S1 = some o → part nl t = some i → Ext m H m1 H1 → RS (g.w fb) m1 σ H1 ρ S1 → GoodE (g.w fb) W m1 σ H1 Q o → R i H1) : tO g W nl f σ H R := by
  cases e : f ρ S with
  | none => rw [e] at h; cases h
  | some r =>
    rw [e] at h
    refine ⟨fb, m, ρ, S, r, rs, e, ?_⟩
    cases r with
    | ok t S1 =>
      obtain ⟨i, ei⟩ := hp t S1 h
      exact ⟨i, ei, fun m1 H1 x sr => hb t S1 i m1 H1 h ei x ⟨rs.env.mono x, sr⟩ (G.ext x)⟩
    | ex c p S1 =>
      have : o = .ex c p S1 := (Option.some.inj h).symm
      subst this
      exact G
theorem pe_s {bx : Bool} {a lo hi : IE} {e x : Expr} {l h : Option Expr} (xo : XOk G g E W X) (hv : vSl e = some (x, l, h)) (ha : PE X x (tE g W (evE E a))) (hl : PO X l (tO g W (isNil lo) (evE E lo))) (hh : PO X h (tO g W (isNil hi) (evE E hi))) :
    PE X e (tE g W (evE E (.sl bx a lo hi))) := by
  obtain ⟨p, p2, rfl⟩ := vSl_eq hv
  refine (pe_slice (sl_x xo.K) ha hl hh).of fun σ H Q ⟨fb, m, ρ, S, o', rs, e, Gd⟩ => ?_
  simp only [evE] at e
  refine tE_bnd e rs Gd fun t S1 v m1 H1 e1 x1 rs1 r1 Gd1 => ?_
  refine tO_part e1 rs1 Gd1 (fun tl S2 q => ?_) fun tl S2 i m2 H2 q ei x2 rs2 Gd2 => ?_
  · split at q
    · rename_i i hi; exact ⟨i, hi⟩
    · cases q
  · rw [ei] at q
    refine tO_part q rs2 Gd2 (fun th S3 q3 => ?_) fun th S3 j m3 H3 q3 ej x3 rs3 Gd3 => ?_
    · split at q3
      · rename_i i hi; exact ⟨i, hi⟩
      · cases q3
    · rw [ej] at q3
      simp only [lift] at q3
      split at q3
      · rename_i z hz
        simp only [Option.some.injEq] at q3
        subst q3
        exact ⟨fb, W, m3, σ, S3, bx, t, z, rs3.sto, Rep.mono x3 _ (Rep.mono x2 _ r1), hz, Gd3⟩
      · cases q3

theorem vRev_eq {e x : Expr} (h : vRev e = some x) : ∃ k p1 p2 p3 p, e = .Subscript x (.Slice none none (some (.UnaryOp .USub (.Constant (.int 1) k p1) p2)) p3) p := by
  unfold vRev at h
  split at h
  · simp only [Option.some.injEq] at h
    subst h
    exact ⟨_, _, _, _, _, rfl⟩
  · cases h
theorem pe_r {bx : Bool} {a : IE} {e x : Expr} (xo : XOk G g E W X) (hv : vRev e = some x) (ha : PE X x (tE g W (evE E a))) : PE X e (tE g W (evE E (.rev bx a))) := by
  obtain ⟨k, p1, p2, p3, p, rfl⟩ := vRev_eq hv
  refine (pe_revA ha).of fun σ H Q ⟨fb, m, ρ, S, o', rs, e, Gd⟩ => ?_
  simp only [evE] at e
  refine tE_bnd e rs Gd fun t S1 v m1 H1 e1 x1 rs1 r1 Gd1 => ?_
  simp only [lift] at e1
  split at e1
  · rename_i z hz
    simp only [Option.some.injEq] at e1
    subst e1
    have rd := RepD.drf rs1.sto r1
    unfold revT at hz
    split at hz
    · rename_i l hl
      rw [hl] at rd
      obtain ⟨a', vs, rfl, q1, l1⟩ := RepD.tup rd
      simp only [Option.some.injEq] at hz; subst hz
      have q1 : SqT g.K H1 a' vs := q1
      rw [← xo.K] at q1
      exact ⟨a', vs, rfl, .inr ⟨q1, fin_tup Gd1 rs1.sto l1.reverse⟩⟩
    · rename_i l hl
      rw [hl] at rd
      obtain ⟨a', vs, rfl, q1, l1⟩ := RepD.lst rd
      simp only [Option.some.injEq] at hz; subst hz
      exact ⟨a', vs, rfl, .inl ⟨SqL.of q1, fin_lst Gd1 rs1.sto l1.reverse⟩⟩
    · cases hz
  · cases e1

/-! calls -/
theorem vCall_eq {e : Expr} {x : Str} {r : List Expr} (h : vCall e = some (x, r)) : ∃ p q a es, e = .Call (.Name x p) (a :: es) [] q ∧ r = a :: es := by
  unfold vCall at h
  split at h
  · simp only [Option.some.injEq, Prod.mk.injEq] at h
    obtain ⟨rfl, rfl⟩ := h
    exact ⟨_, _, _, _, rfl, rfl⟩
  · cases h
theorem star_tail {es : IE} {a : Expr} {r : List Expr} (G : Gm) (env : Env) (pos : Pos) (h : chkA G es (a :: r) = true) : starEach (a :: r) env = (false, eval a env) :: starEach r env ∧ (backTo pos (starEach r env)).any (·.1) = false := by
  cases es <;> simp only [chkA] at h <;> try (cases h; done)
  simp only [Bool.and_eq_true] at h
  exact ⟨starEach_cons h.2.1, star_none (E := .nil) G _ r env pos h.2.2⟩
theorem goodC {m : List Addr} {σ : L2.St} {H : Hp} {Q : VK} {o : Out} (h : GoodE g W m σ H Q o) : GoodC g m H Q (WE W σ) o := by
  cases o with
  | ok t S => exact h
  | ex c p S => exact h
theorem pe_cg {c : Nat → List T → Sto → Res} {f : Nat} {es : IE} {e : Expr} {x : Str} {r : List Expr} (xo : XOk G g E W X) (hv : vCall e = some (x, r)) (hn : CallOk X g c f ∧ X.mg x = some (.ref (g.fa f))) (hg : glb G x = true) (hc : chkA G es r = true) (ha : PA X r (tA g W (evE E es))) : PE X e (tE g W fun ρ S => bnd (evE E es ρ S) fun x S1 => tups x fun l => c f l S1) := by
  obtain ⟨p, q, a, es', rfl, rfl⟩ := vCall_eq hv
  obtain ⟨gl, db⟩ := glb_gl xo hg
  obtain ⟨⟨k, fd, ps, F, hr, hk, hb, hlen⟩, hm⟩ := hn
  obtain ⟨h1, h2⟩ := star_tail G X.env q hc
  refine (pe_callS F hr gl hm hk hb (fun σ => passAt xo.tk σ) ha db h1 h2).of fun σ H Q ⟨fb, m, ρ, S, o', rs, e, Gd⟩ => ?_
  refine tA_of (k := fun l S1 => c f l S1) e rs Gd fun l S1 vs m1 H1 ek x rs1 rp Gd1 => ?_
  exact ⟨by rw [← rp.length]; exact hlen _ _ _ ek, fb, m1, S1, l, o', rp, rs1.sto, ek, goodC Gd1⟩
theorem pe_ca {f : Nat} {es : IE} {e : Expr} {x : Str} {r : List Expr} (xo : XOk G g E W X) (hv : vCall e = some (x, r)) (hn : G.fname f = some x) (hg : glb G x = true) (hc : chkA G es r = true) (ha : PA X r (tA g W (evE E es))) : PE X e (tE g W (evE E (.call f es))) := pe_cg xo hv (xo.call f x hn) hg hc ha
theorem pe_cal {f : Nat} {es : IE} {e : Expr} {x : Str} {r : List Expr} (xo : XOk G g E W X) (hv : vCall e = some (x, r)) (hn : G.fnameL f = some x) (hg : glb G x = true) (hc : chkA G es r = true) (ha : PA X r (tA g W (evE E es))) : PE X e (tE g W (evE E (.callL f es))) := pe_cg xo hv (xo.callL f x hn) hg hc ha
/-- a local that holds a def -/
theorem pe_cv {c : Nat → List T → Sto → Res} {i : Nat} {es : IE} {e : Expr} {x : Str} {r : List Expr} (xo : XOk G g E W X) (hv : vCall e = some (x, r)) (hn : ∀ f ts S o, c f ts S = some o → CallOk X g c f) (hN : G.N[i]? = some x) (hvis : visB G.sc x = true) (hd : dbg x = true) (hc : chkA G es r = true) (ha : PA X r (tA g W (evE E es))) :
    PE X e (tE g W fun ρ S => (match ρ[i]? with | some (some (.fn f)) => (match evE E es ρ S with | some (.ok (.tup l) S1) => c f l S1 | _ => none) | _ => none)) := by
  obtain ⟨p, q, a, es', rfl, rfl⟩ := vCall_eq hv
  obtain ⟨h1, h2⟩ := star_tail G X.env q hc
  refine ⟨fun pins s σ H Q I ⟨fb, m, ρ, S, o', rs, e, Gd⟩ => ?_⟩
  simp only at e
  split at e
  · rename_i f hf
    split at e
    · rename_i l S1 hl
      obtain ⟨k, fd, ps, F, hr, hk, hb, hlen⟩ := hn _ _ _ _ e
      simp only [dbg, Bool.and_eq_true, Bool.not_eq_true'] at hd
      have hv' : Vis X.env.scope x := by
        simp only [visB, isKind, Bool.or_eq_true, decide_eq_true_eq] at hvis
        rw [← xo.sc] at hvis
        rcases hvis with (h | h) | h
        · exact .inl h
        · exact .inr (.inl h)
        · exact .inr (.inr h)
      obtain ⟨vf, q1, q2⟩ := rs.env.2 i _ hf
      simp only [Rep] at q2
      subst q2
      have rd := (pe_var (X := X) (pos := p) (i := i) (by rw [xo.N]; exact hN) hv' hd.1 hd.2).run pins s σ H (fun z Hz => z = .ref (g.fa f) ∧ Hz = H) I ⟨_, q1, rfl, rfl⟩
      refine wpAny_Call_Name_kw (thn rd fun uf sf ⟨vf, Hf, If, rf, ef, eH⟩ => ?_)
      subst ef; subst eH
      cases rf
      have args : tA g W (evE E es) σ Hf fun vs H1 => spF g c f ps.length vs H1 Q (WE W σ) := by
        refine ⟨fb, m, ρ, S, _, rs, hl, fun vs m1 H1 x1 sr rp => ?_⟩
        exact ⟨by rw [← rp.length]; exact hlen _ _ _ e, fb, m1, S1, l, o', rp, sr, e, goodC (Gd.ext x1)⟩
      refine PySem.W.callWith_K (h₀ := X.base) If.ok.mod.kin hk (thn (ha.run q pins sf σ Hf _ If args) fun ua sa ⟨va, Ha, Ia, ra, qa⟩ => ⟨Ia.kIn, run_fnS F hr hb (passAt xo.tk σ) Ia ra qa⟩) h1 h2
    · cases e
  · cases e

theorem boot_bl (b : Bl) : bootBuiltins b.nm = some b.val := by cases b <;> decide +kernel
theorem bltB_gl (xo : XOk G g E W X) {x : Str} (h : bltB G x = true) : Gl X x ∧ (x == ("__debug__" : Str)) = false ∧ X.mg x = none ∧ x ≠ "__name__" := by
  simp only [bltB, Bool.and_eq_true, Bool.not_eq_true'] at h
  obtain ⟨⟨h1, h2⟩, h3⟩ := h
  obtain ⟨gl, db⟩ := glb_gl xo h1
  refine ⟨gl, db, xo.blt x (by simpa using h2), fun z => ?_⟩
  rw [z] at h3
  simp at h3
theorem Bl.cases (b : Bl) : (∃ id, b.val = .builtin id) ∨ ∃ T, b.val = .type T := by
  cases b <;> first | exact .inl ⟨_, rfl⟩ | exact .inr ⟨_, rfl⟩
theorem pe_bl_ {bx : Bool} {b : Bl} {es : IE} {e : Expr} {x : Str} {r : List Expr} (xo : XOk G g E W X) (hv : vCall e = some (x, r)) (hn : b.nm = x) (hg : bltB G x = true) (hc : chkA G es r = true) (ha : PA X r (tA g W (evE E es))) : PE X e (tE g W (evE E (.blt bx b es))) := by
  obtain ⟨p, q, a, es', rfl, rfl⟩ := vCall_eq hv
  obtain ⟨gl, db, hm, nn⟩ := bltB_gl xo hg
  obtain ⟨h1, h2⟩ := star_tail G X.env q hc
  have hv : bootBuiltins x = some b.val := by rw [← hn]; exact boot_bl b
  have fin : ∀ σ H Q, tE g W (evE E (.blt bx b es)) σ H Q → tCB (rBlx g b) (tA g W (evE E es)) σ H Q := fun σ H Q ⟨fb, m, ρ, S, o', rs, e, Gd⟩ => by
    simp only [evE] at e
    refine tA_of (k := fun l S1 => lift bx (bltT S1 b l) S1) e rs Gd fun l S1 vs m1 H1 ek x rs1 rp Gd1 => ?_
    simp only [lift] at ek
    split at ek
    · rename_i z hz
      simp only [Option.some.injEq] at ek
      subst ek
      exact ⟨fb, W, m1, σ, S1, bx, l, z, rs1.sto, rp, hz, Gd1⟩
    · cases ek
  have hcall := call_bltx (X := X) xo.K xo.calm b
  rcases b.cases with ⟨id, hid⟩ | ⟨T, hT⟩
  · rw [hid] at hcall hv
    exact (pe_callB hcall gl hm hv ha nn db h1 h2).of fin
  · rw [hT] at hcall hv
    exact (pe_callTy hcall gl hm hv ha nn db h1 h2).of fin

theorem kit_all {a ty : String} (ha : a ∈ ["NoneType", "bool", "int", "str", "tuple", "list"]) (ht : ty ∈ ["int", "bool", "str", "tuple", "list"]) : kitB a ty = some (a == ty || (a == "bool" && ty == "int")) := by
  have h : ∀ a ∈ ["NoneType", "bool", "int", "str", "tuple", "list"], ∀ ty ∈ ["int", "bool", "str", "tuple", "list"], kitB a ty = some (a == ty || (a == "bool" && ty == "int")) := by decide +kernel
  exact h a ha ty ht
theorem boot_ty {ty : String} (ht : ty ∈ ["int", "bool", "str", "tuple", "list"]) : bootBuiltins (Str.ofString ty) = some (.type ty) := by
  have h : ∀ ty ∈ ["int", "bool", "str", "tuple", "list"], bootBuiltins (Str.ofString ty) = some (.type ty) := by decide +kernel
  exact h ty ht
theorem pe_is {a : IE} {ty : String} {e y z : Expr} {x w : Str} (xo : XOk G g E W X) (hv : vCall e = some (x, [y, z])) (hw : vName z = some w) (hx : x = "isinstance") (hwt : w = Str.ofString ty) (hg : bltB G x = true) (hg2 : bltB G w = true)
    (ht : ty ∈ ["int", "bool", "str", "tuple", "list"]) (ha : PE X y (tE g W (evE E a))) (hs : noStar y = true) : PE X e (tE g W (evE E (.isi a ty))) := by
  obtain ⟨p, q, a', es', rfl, hr⟩ := vCall_eq hv
  cases hr
  obtain ⟨p2, rfl⟩ := vName_eq hw
  obtain ⟨gl, db, hm, nn⟩ := bltB_gl xo hg
  obtain ⟨gl2, db2, hm2, nn2⟩ := bltB_gl xo hg2
  have hb : bootBuiltins x = some (.builtin "isinstance") := by rw [hx]; decide +kernel
  have hb2 : bootBuiltins w = some (.type ty) := by rw [hwt]; exact boot_ty ht
  have ha2 : PE X (.Name w p2) (tC (.ty ty)) := pe_bltn gl2 hm2 hb2 rfl nn2 db2
  refine (pe_callB call_isi gl hm hb (pa_cons ha (pa_cons ha2 pa_nil rfl) (starEach_cons hs)) nn db (starEach_cons hs) rfl).of fun σ H Q ⟨fb, m, ρ, S, o', rs, e, Gd⟩ => ?_
  simp only [evE] at e
  refine tE_bnd e rs Gd fun t S1 v m1 H1 e1 x1 rs1 r1 Gd1 => ?_
  simp only [liftB, isiT] at e1
  split at e1
  · rename_i b hb'
    simp only [Option.some.injEq] at e1
    subst e1
    split at hb'
    · rename_i ta hta
      simp only [Option.some.injEq] at hb'
      have k := kit_all (tys hta) ht
      rw [hb'] at k
      exact ⟨v, .ty ty, .type ta, .type ty, b, rfl, .ty ty, ty_of (g := g.w fb) xo.K rs1.sto r1 hta, kit_ty k, fin_val Gd1 rs1.sto Rep.bl_⟩
    · cases hb'
  · cases e1

/-! methods of texts -/
theorem vMth_eq {e o : Expr} {n : Str} {r : List Expr} (h : vMth e = some (o, n, r)) : ∃ ap pos, e = .Call (.Attribute o n ap) r [] pos ∧ (ap.endLine == pos.line) = true := by
  unfold vMth at h
  split at h
  · split at h
    · rename_i q
      simp only [Option.some.injEq, Prod.mk.injEq] at h
      obtain ⟨rfl, rfl, rfl⟩ := h
      exact ⟨_, _, rfl, q⟩
    · cases h
  · cases h
theorem nosup {o : Expr} {n : Str} {env : Env} {wh : Sem Value} (h : noSup o = true) : attributeBase o n env wh = wh := by
  cases o <;> first | rfl | cases h
theorem pe_m0_ {m : Mt} {a : IE} {e o : Expr} {n : Str} (xo : XOk G g E W X) (hv : vMth e = some (o, n, [])) (hn : m.nm = n) (h0 : is0 m = true) (hs : noSup o = true) (ha : PE X o (tE g W (evE E a))) : PE X e (tE g W (evE E (.mt0 m a))) := by
  obtain ⟨ap, pos, rfl, hl⟩ := vMth_eq hv
  subst hn
  cases m with
  | upper =>
    refine (pe_upper ha (nosup hs) hl).of fun σ H Q ⟨fb, m, ρ, S, o', rs, e, Gd⟩ => ?_
    simp only [evE] at e
    refine tE_bnd e rs Gd fun t S1 v m1 H1 e1 x1 rs1 r1 Gd1 => ?_
    simp only [lift] at e1
    split at e1
    · rename_i z hz
      simp only [Option.some.injEq] at e1
      subst e1
      cases t <;> simp only [mt0T] at hz <;> try (cases hz; done)
      rename_i s
      split at hz
      · rename_i hl
        simp only [Option.some.injEq] at hz
        subst hz
        have := RepD.str (RepD.of r1)
        exact ⟨⟨s, this⟩, s, this, rfl, hl, fin_val (t := .str _) Gd1 rs1.sto Rep.str_⟩
      · cases hz
    · cases e1
  | _ => cases h0
theorem star1 {e : Expr} {env : Env} (h : noStar e = true) : starEach [e] env = [(false, eval e env)] := starEach_cons h
theorem pe_m1_ {m : Mt} {a b : IE} {e o y : Expr} {n : Str} (xo : XOk G g E W X) (hv : vMth e = some (o, n, [y])) (hn : m.nm = n) (h0 : is0 m = false) (hs : noSup o = true) (hy : noStar y = true) (ha : PE X o (tE g W (evE E a))) (hb : PE X y (tE g W (evE E b))) : PE X e (tE g W (evE E (.mt1 m a b))) := by
  obtain ⟨ap, pos, rfl, hl⟩ := vMth_eq hv
  subst hn
  cases m with
  | upper => cases h0
  | split =>
    refine (pe_split ha hb (star1 hy) (nosup hs) hl).of fun σ H Q ⟨fb, m, ρ, S, o', rs, e, Gd⟩ => ?_
    simp only [evE] at e
    refine tE_bnd e rs Gd fun t S1 v m1 H1 e1 x1 rs1 r1 Gd1 => ?_
    cases t <;> simp only [strT] at e1 <;> try (cases e1; done)
    rename_i s
    have hs' := RepD.str (RepD.of r1)
    refine ⟨⟨s, hs'⟩, tE_bnd e1 rs1 Gd1 fun u S2 w m2 H2 e2 x2 rs2 r2 Gd2 => ?_⟩
    simp only [lift] at e2
    split at e2
    · rename_i z hz
      simp only [Option.some.injEq] at e2
      subst e2
      simp only [mt1T] at hz
      cases u <;> simp only at hz <;> try (cases hz; done)
      rename_i b'
      split at hz
      · rename_i hl
        simp only [Option.some.injEq] at hz
        subst hz
        rw [line_eq] at hl
        have := RepD.str (RepD.of r2)
        exact ⟨s, b', hs', by rw [this], hl.1, hl.2, fin_lst Gd2 rs2.sto (rep_of_strs _)⟩
      · cases hz
    · cases e2
  | join =>
    refine (pe_join ha hb (star1 hy) (nosup hs) hl).of fun σ H Q ⟨fb, m, ρ, S, o', rs, e, Gd⟩ => ?_
    simp only [evE] at e
    refine tE_bnd e rs Gd fun t S1 v m1 H1 e1 x1 rs1 r1 Gd1 => ?_
    cases t <;> simp only [strT] at e1 <;> try (cases e1; done)
    rename_i s
    have hs' := RepD.str (RepD.of r1)
    refine ⟨⟨s, hs'⟩, tE_bnd e1 rs1 Gd1 fun u S2 w m2 H2 e2 x2 rs2 r2 Gd2 => ?_⟩
    simp only [lift] at e2
    split at e2
    · rename_i z hz
      simp only [Option.some.injEq] at e2
      subst e2
      simp only [mt1T] at hz
      have rd := RepD.drf rs2.sto r2
      split at hz
      · rename_i l hl
        rw [hl] at rd
        obtain ⟨a', vs, rfl, q1, l1⟩ := RepD.lst rd
        split at hz
        · rename_i ys hys
          split at hz
          · rename_i hz'
            simp only [Option.some.injEq] at hz
            subst hz
            have := rep_strs l1 hys
            subst this
            exact ⟨s, a', ys, hs', rfl, .inl (SqL.of q1), hz', fin_val (t := .str _) Gd2 rs2.sto Rep.str_⟩
          · cases hz
        · cases hz
      · rename_i l hl
        rw [hl] at rd
        obtain ⟨a', vs, rfl, q1, l1⟩ := RepD.tup rd
        split at hz
        · rename_i ys hys
          split at hz
          · rename_i hz'
            simp only [Option.some.injEq] at hz
            subst hz
            have := rep_strs l1 hys
            subst this
            have q1 : SqT g.K H2 a' (ys.map V.str) := q1
            rw [← xo.K] at q1
            exact ⟨s, a', ys, hs', rfl, .inr q1, hz', fin_val (t := .str _) Gd2 rs2.sto Rep.str_⟩
          · cases hz
        · cases hz
      · cases hz
    · cases e2
end
end Fw

namespace Fw
open PySem L2 PyProof.Rows

section
variable {G : Gm} {g : GW} {E : EV} {W : WX} {X : Cx}

/-! ### targets -/
def Kept (tg : Tg) (σ σ' : L2.St) : Prop := ∀ vs : List Nat, (∀ i ∈ slots tg, i ∈ vs) → L2.wipe σ' vs = L2.wipe σ vs
theorem wipe_set : ∀ {vs : List Nat} {σ : L2.St} {i : Nat} {v : Option V}, i ∈ vs → L2.wipe (σ.set i v) vs = L2.wipe σ vs
  | [], _, _, _, h => by simp at h
  | w :: vs, σ, i, v, h => by
    show (L2.wipe (σ.set i v) vs).set w none = (L2.wipe σ vs).set w none
    by_cases hi : i ∈ vs
    · rw [wipe_set hi]
    · have e : i = w := by
        rcases List.mem_cons.mp h with e | e
        · exact e
        · exact absurd e hi
      subst e
      have : ∀ (vs : List Nat), i ∉ vs → ∀ σ : L2.St, L2.wipe (σ.set i v) vs = (L2.wipe σ vs).set i v := by
        intro vs
        induction vs with
        | nil => intro _ σ; rfl
        | cons x r ih =>
          intro hn σ
          simp only [List.mem_cons, not_or] at hn
          show (L2.wipe (σ.set i v) r).set x none = ((L2.wipe σ r).set x none).set i v
          rw [ih hn.2, List.set_comm _ _ hn.1]
      rw [this vs hi, List.set_set]

def tG (g : GW) (tg : Tg) : TG := fun v σ H Q => ∃ fb m t ρ ρ' S, RS (g.w fb) m σ H ρ S ∧ Rep (g.w fb) m H t v ∧ bindT tg t ρ = some ρ' ∧ ∀ σ', RS (g.w fb) m σ' H ρ' S → Kept tg σ σ' → Q σ' H
def tGs (g : GW) (tg : Tg) : TGs := fun vs σ H Q => ∃ fb m ts ρ ρ' S, RS (g.w fb) m σ H ρ S ∧ RepL (g.w fb) m H ts vs ∧ bindT tg (.tup ts) ρ = some ρ' ∧ ∀ σ', RS (g.w fb) m σ' H ρ' S → Kept tg σ σ' → Q σ' H
theorem _root_.L2.PG.of {X : Cx} {e : Expr} {t t' : TG} (h : PG X e t) (i : ∀ v σ H Q, t' v σ H Q → t v σ H Q) : PG X e t' := ⟨fun pins s σ H v u Q I r q => h.run pins s σ H v u Q I r (i v σ H Q q)⟩
theorem _root_.L2.PGs.of {X : Cx} {e : List Expr} {t t' : TGs} (h : PGs X e t) (i : ∀ v σ H Q, t' v σ H Q → t v σ H Q) : PGs X e t' := ⟨fun pins s σ H v u Q I r q => h.run pins s σ H v u Q I r (i v σ H Q q)⟩
def isTgt (e : Expr) : Bool := match e with
  | .Starred _ _ => false
  | _ => true
theorem assignEach_cons {e : Expr} {r : List Expr} {env : Env} (h : isTgt e = true) : assignEach (e :: r) env = (false, assign e env) :: assignEach r env := by
  cases e <;> first | rfl | cases h
theorem vTup_eq {e : Expr} {es : List Expr} (h : vTup e = some es) : ∃ k p, e = .Tuple es k p := by
  cases e <;> simp [vTup] at h
  subst h; exact ⟨_, _, rfl⟩
theorem vLst_eq {e : Expr} {es : List Expr} (h : vLst e = some es) : ∃ p, e = .List es p := by
  cases e <;> simp [vLst] at h
  subst h; exact ⟨_, rfl⟩
theorem chkT_tgt {tg : Tg} {e : Expr} (h : chkT G tg e = true) : isTgt e = true := by
  cases tg with
  | nm i =>
    simp only [chkT] at h
    split at h
    · rename_i x q
      obtain ⟨p, rfl⟩ := vName_eq q
      rfl
    · cases h
  | tp a =>
    simp only [chkT] at h
    split at h
    · rename_i x q
      obtain ⟨k, p, rfl⟩ := vTup_eq q
      rfl
    · cases h
  | nl => simp [chkT] at h
  | cn a b => simp [chkT] at h
theorem chkTs_each : ∀ (es : List Expr) {tg : Tg} {env : Env}, chkT.chkTs G tg es = true → (assignEach es env).length = es.length ∧ (assignEach es env).findIdx? (·.1) = none
  | [], tg, env, h => ⟨rfl, rfl⟩
  | e :: r, tg, env, h => by
    cases tg with
    | cn a b =>
      simp only [chkT.chkTs, Bool.and_eq_true] at h
      obtain ⟨h1, h2⟩ := chkTs_each r (env := env) h.2
      rw [assignEach_cons (chkT_tgt h.1)]
      refine ⟨by simp [h1], ?_⟩
      rw [List.findIdx?_cons]
      simp [h2]
    | nl => simp [chkT.chkTs] at h
    | nm i => simp [chkT.chkTs] at h
    | tp a => simp [chkT.chkTs] at h

theorem bindT_nm {i : Nat} {t : T} {ρ ρ' : Rho} (h : bindT (.nm i) t ρ = some ρ') : ρ' = ρ.set i (some t) := by
  simp only [bindT, Option.some.injEq] at h
  exact h.symm
theorem bindT_tp {a : Tg} {t : T} {ρ ρ' : Rho} (h : bindT (.tp a) t ρ = some ρ') : ∃ l, t = .tup l ∧ bindT a (.tup l) ρ = some ρ' := by
  cases t <;> simp only [bindT] at h <;> first | exact ⟨_, rfl, h⟩ | cases h
theorem bindT_nl {ts : List T} {ρ ρ' : Rho} (h : bindT .nl (.tup ts) ρ = some ρ') : ts = [] ∧ ρ' = ρ := by
  cases ts with
  | nil => simp only [bindT, Option.some.injEq] at h; exact ⟨rfl, h.symm⟩
  | cons a r => simp [bindT] at h
theorem bindT_cn {a b : Tg} {ts : List T} {ρ ρ' : Rho} (h : bindT (.cn a b) (.tup ts) ρ = some ρ') : ∃ x xs ρ1, ts = x :: xs ∧ bindT a x ρ = some ρ1 ∧ bindT b (.tup xs) ρ1 = some ρ' := by
  cases ts with
  | nil => simp [bindT] at h
  | cons x xs =>
    simp only [bindT] at h
    split at h
    · rename_i ρ1 h1
      exact ⟨x, xs, ρ1, rfl, h1, h⟩
    · cases h
theorem bindT_len : ∀ (b : Tg) (ts : List T) (es : List Expr) {ρ ρ' : Rho}, chkT.chkTs G b es = true → bindT b (.tup ts) ρ = some ρ' → ts.length = es.length
  | .nl, ts, es, ρ, ρ', hc, h => by
    obtain ⟨rfl, _⟩ := bindT_nl h
    simp only [chkT.chkTs, List.isEmpty_iff] at hc
    rw [hc]
    rfl
  | .cn a b, ts, es, ρ, ρ', hc, h => by
    obtain ⟨x, xs, ρ1, rfl, h1, h2⟩ := bindT_cn h
    cases es with
    | nil => simp [chkT.chkTs] at hc
    | cons e r =>
      simp only [chkT.chkTs, Bool.and_eq_true] at hc
      simp [bindT_len b xs r hc.2 h2]
  | .nm i, ts, es, ρ, ρ', hc, h => by simp [chkT.chkTs] at hc
  | .tp a, ts, es, ρ, ρ', hc, h => by simp [chkT.chkTs] at hc

theorem pg_sound (hN : X.N = G.N) (nd : G.N.Nodup) (sc : X.env.scope = G.sc) (calm : X.calm = true) (hK : X.K = g.K) (fn : ∀ x, G.fnT x = true → X.fn x = true) : ∀ tg : Tg, (∀ e, chkT G tg e = true → PG X e (tG g tg)) ∧ (∀ es, chkT.chkTs G tg es = true → PGs X es (tGs g tg)) := by
  intro tg
  induction tg with
  | nm i =>
    refine ⟨fun e h => ?_, fun es h => by simp [chkT.chkTs] at h⟩
    simp only [chkT] at h
    split at h
    · rename_i x q
      obtain ⟨p, rfl⟩ := vName_eq q
      simp only [Bool.and_eq_true, decide_eq_true_eq, isKind, Bool.or_eq_true] at h
      obtain ⟨h1, h2⟩ := h
      rw [← hN] at h1
      rw [← sc] at h2
      have hl : Loc X.env.scope x := by
        rcases h2 with h2 | h2
        · exact .inl h2
        · exact .inr h2.1
      have hf : X.fn x = true ∨ X.env.scope.names.lookup x = some .local := by
        rcases h2 with h2 | h2
        · exact .inr h2
        · exact .inl (fn x h2.2)
      refine (pg_name (i := i) (by rw [hN]; exact nd) h1 hl hf).of fun v σ H Q ⟨fb, m, t, ρ, ρ', S, rs, r, eb, k⟩ => ?_
      cases bindT_nm eb
      exact k _ ⟨rs.env.set i r, rs.sto⟩ fun vs hv => wipe_set (hv i (by simp [slots]))
    · cases h
  | nl =>
    refine ⟨fun e h => by simp [chkT] at h, fun es h => ?_⟩
    simp only [chkT.chkTs, List.isEmpty_iff] at h
    subst h
    refine pgs_nil.of fun vs σ H Q ⟨fb, m, ts, ρ, ρ', S, rs, r, eb, k⟩ => ?_
    obtain ⟨rfl, rfl⟩ := bindT_nl eb
    simp only [RepL] at r
    exact ⟨r, k σ rs fun _ _ => rfl⟩
  | cn a b iha ihb =>
    refine ⟨fun e h => by simp [chkT] at h, fun es h => ?_⟩
    cases es with
    | nil => simp [chkT.chkTs] at h
    | cons e r =>
      simp only [chkT.chkTs, Bool.and_eq_true] at h
      refine (pgs_cons (iha.1 e h.1) (ihb.2 r h.2) (by rw [assignEach_cons (chkT_tgt h.1)]; rfl)).of fun vs σ H Q ⟨fb, m, ts, ρ, ρ', S, rs, rp, eb, k⟩ => ?_
      obtain ⟨x, xs, ρ1, rfl, h1, h2⟩ := bindT_cn eb
      simp only [RepL] at rp
      obtain ⟨v, vr, rfl, r1, r2⟩ := rp
      refine ⟨v, vr, rfl, fb, m, x, ρ, ρ1, S, rs, r1, h1, fun σ1 rs1 k1 => ?_⟩
      refine ⟨fb, m, xs, ρ1, ρ', S, rs1, r2, h2, fun σ2 rs2 k2 => k σ2 rs2 fun vs hv => ?_⟩
      rw [k2 vs fun i hi => hv i (by simp [slots, hi]), k1 vs fun i hi => hv i (by simp [slots, hi])]
  | tp a iha =>
    refine ⟨fun e h => ?_, fun es h => by simp [chkT.chkTs] at h⟩
    simp only [chkT] at h
    split at h
    · rename_i es q
      obtain ⟨kk, p, rfl⟩ := vTup_eq q
      obtain ⟨h1, h2⟩ := chkTs_each es (env := X.env) h
      refine (pg_tup (n := es.length) calm (iha.2 es h) h1 h2).of fun v σ H Q ⟨fb, m, t, ρ, ρ', S, rs, r, eb, k⟩ => ?_
      obtain ⟨l, rfl, eb'⟩ := bindT_tp eb
      obtain ⟨a', vs, rfl, q1, l1⟩ := RepD.tup (RepD.of r)
      have q1 : SqT g.K H a' vs := q1
      rw [← hK] at q1
      exact ⟨a', vs, rfl, q1, by rw [← l1.length]; exact bindT_len a l es h eb', fb, m, l, ρ, ρ', S, rs, l1, eb', fun σ' rs' k' => k σ' rs' k'⟩
    · cases h

/-! ### trees in another heap, with other lists under way -/
theorem RepL.imp {g g' : GW} {m m' : List Addr} {H H' : Hp} : ∀ {ts : List T} {vs : List V}, (∀ t ∈ ts, ∀ v, Rep g m H t v → Rep g' m' H' t v) → RepL g m H ts vs → RepL g' m' H' ts vs
  | [], vs, f, h => by simpa only [RepL] using h
  | t :: ts, vs, f, h => by
    simp only [RepL] at h ⊢
    obtain ⟨v, r, h1, h2, h3⟩ := h
    exact ⟨v, r, h1, f t List.mem_cons_self v h2, RepL.imp (fun u hu => f u (List.mem_cons_of_mem _ hu)) h3⟩
mutual
theorem Rep.step {g : GW} {fb' m m' : List Addr} {H H' : Hp} (hg : ∀ (n : Nat) (a : Addr), m[n]? = some a → m'[n]? = some a) (hk : ∀ a o, H a = some o → NT o → a ∉ m → a ∉ g.fb → H' a = some o ∧ a ∉ m' ∧ a ∉ fb') : ∀ (t : T) {v : V}, Rep g m H t v → Rep (g.w fb') m' H' t v
  | .non, v, h => by simpa only [Rep] using h
  | .bl b, v, h => by simpa only [Rep] using h
  | .int i, v, h => by simpa only [Rep] using h
  | .str s, v, h => by simpa only [Rep] using h
  | .fn f, v, h => by simp only [Rep] at h ⊢; exact h
  | .box n, v, h => by
    simp only [Rep] at h ⊢
    obtain ⟨a, h1, h2⟩ := h
    exact ⟨a, hg _ _ h1, h2⟩
  | .scr ns, v, h => by
    simp only [Rep] at h ⊢
    obtain ⟨a, h1, h2⟩ := h
    refine ⟨a, h1, ?_⟩
    rcases h2 with ⟨q, q', r⟩ | h2
    · rcases r with r | ⟨o, r⟩
      · obtain ⟨z1, z2, z3⟩ := hk a _ r (by intro ps z; cases z) q q'
        exact .inl ⟨z2, z3, .inl z1⟩
      · obtain ⟨z1, z2, z3⟩ := hk a _ r (by intro ps z; cases z) q q'
        exact .inl ⟨z2, z3, .inr ⟨o, z1⟩⟩
    · exact .inr h2
  | .tup l, v, h => by
    simp only [Rep] at h ⊢
    obtain ⟨a, vs, h1, h2, h3⟩ := h
    refine ⟨a, vs, h1, ?_, RepL.step hg hk l h3⟩
    rcases h2 with ⟨q, q', r⟩ | h2
    · rcases r with r | ⟨o, r⟩
      · obtain ⟨z1, z2, z3⟩ := hk a _ r (by intro ps z; cases z) q q'
        exact .inl ⟨z2, z3, .inl z1⟩
      · obtain ⟨z1, z2, z3⟩ := hk a _ r (by intro ps z; cases z) q q'
        exact .inl ⟨z2, z3, .inr ⟨o, z1⟩⟩
    · exact .inr h2
  | .lst l, v, h => by
    simp only [Rep] at h ⊢
    obtain ⟨a, vs, h1, q, q', r, h4⟩ := h
    obtain ⟨z1, z2, z3⟩ := hk a _ r (by intro ps z; cases z) q q'
    exact ⟨a, vs, h1, z2, z3, z1, RepL.step hg hk l h4⟩
theorem RepL.step {g : GW} {fb' m m' : List Addr} {H H' : Hp} (hg : ∀ (n : Nat) (a : Addr), m[n]? = some a → m'[n]? = some a) (hk : ∀ a o, H a = some o → NT o → a ∉ m → a ∉ g.fb → H' a = some o ∧ a ∉ m' ∧ a ∉ fb') : ∀ (ts : List T) {vs : List V}, RepL g m H ts vs → RepL (g.w fb') m' H' ts vs
  | [], vs, h => by simpa only [RepL] using h
  | t :: ts, vs, h => by
    simp only [RepL] at h ⊢
    obtain ⟨v, r, h1, h2, h3⟩ := h
    exact ⟨v, r, h1, Rep.step hg hk t h2, RepL.step hg hk ts h3⟩
end
theorem Rep.grow {g : GW} {fb' m m' : List Addr} {H H' : Hp} (e : Ext m H m' H') (hf : ∀ a ∈ fb', a ∈ g.fb ∨ H a = none) {t : T} {v : V} (h : Rep g m H t v) : Rep (g.w fb') m' H' t v :=
  Rep.step (fun _ _ q => e.get q) (fun a o q hn n f => ⟨e.keep a o q n hn, e.notin q n hn, fun z => by
    rcases hf a z with z | z
    · exact f z
    · rw [q] at z; cases z⟩) t h
theorem ObR.step {g : GW} {fb' m m' : List Addr} {H H' : Hp} {ob : Ob} {a : Addr} (hg : ∀ (n : Nat) (a : Addr), m[n]? = some a → m'[n]? = some a) (hk : ∀ a o, H a = some o → NT o → a ∉ m → a ∉ g.fb → H' a = some o ∧ a ∉ m' ∧ a ∉ fb') (h : ObR g m H ob a) (k : H' a = H a) : ObR (g.w fb') m' H' ob a := by
  cases ob with
  | lst l => obtain ⟨vs, e1, r⟩ := h; exact ⟨vs, by rw [k]; exact e1, RepL.step hg hk l r⟩
  | dct _ => exact h.elim
  | ins _ _ => exact h.elim

/-! ### what is walked -/
/-- J walks the items l, whatever comes between the turns -/
structure Wk (g : GW) (m : List Addr) (H : Hp) (l : List T) (J : It) : Prop where
  ex : ∃ (GG : Hp → Prop) (Y : Nat → Hp → V → Hp → Prop), Walk J l.length GG Y ∧ (∀ m1 H1, Ext m H m1 H1 → GG H1) ∧
    ∀ i fb' m1 H1 x H2, i < l.length → Ext m H m1 H1 → (∀ a ∈ fb', a ∈ g.fb ∨ H a = none) → (∀ a, H1 a = none → a ∉ m1 ∧ a ∉ fb') → Y i H1 x H2 → ∃ t, l[i]? = some t ∧ Rep (g.w fb') m1 H2 t x ∧ (H2 = H1 ∨ ∃ p o, H1 p = none ∧ H2 = upd H1 p o)
theorem wk_list {m : List Addr} {H : Hp} {l : List T} {a : Addr} {vs : List V} {K : PySem.W.Frag} (ha : a ∉ m) (hh : H a = some (.lst vs)) (r : RepL g m H l vs) : Wk g m H l (Itl K a) := by
  refine ⟨fun H => SqL K H a vs, YAt vs, by rw [r.length]; exact walk_list, fun m1 H1 x => SqL.of (x.keep _ _ hh ha), fun i fb' m1 H1 x H2 hlt e hfb hf y => ?_⟩
  obtain ⟨rfl, hx⟩ := y
  have hi : i < l.length := by rw [r.length]; exact (List.getElem?_eq_some_iff.mp hx).1
  obtain ⟨v, h1, h2⟩ := r.get (List.getElem?_eq_getElem hi)
  rw [hx] at h1; cases h1
  exact ⟨l[i], List.getElem?_eq_getElem hi, Rep.grow e hfb h2, .inl rfl⟩
theorem wk_tup {m : List Addr} {H : Hp} {l : List T} {a : Addr} {vs : List V} (hh : (a ∉ m ∧ Rd H a (.tup vs)) ∨ KTup g.K a vs) (r : RepL g m H l vs) : Wk g m H l (Itt g.K a) := by
  refine ⟨fun H => SqT g.K H a vs, YAt vs, by rw [r.length]; exact walk_tup, fun m1 H1 x => ?_, fun i fb' m1 H1 x H2 hlt e hfb hf y => ?_⟩
  · rcases hh with ⟨h1, h2⟩ | h2
    · exact .inl (Rd.ext x h2 h1).2
    · exact .inr h2
  obtain ⟨rfl, hx⟩ := y
  have hi : i < l.length := by rw [r.length]; exact (List.getElem?_eq_some_iff.mp hx).1
  obtain ⟨v, h1, h2⟩ := r.get (List.getElem?_eq_getElem hi)
  rw [hx] at h1; cases h1
  exact ⟨l[i], List.getElem?_eq_getElem hi, Rep.grow e hfb h2, .inl rfl⟩
theorem wk_rng {m : List Addr} {H : Hp} {lo : Int} {n : Nat} : Wk g m H (rngT lo n) (Itr lo n) := by
  refine ⟨fun _ => True, YFn fun i => .int (lo + i), by simpa [rngT] using walk_range, fun _ _ _ => trivial, fun i fb' m1 H1 x H2 hlt e hfb hf y => ?_⟩
  obtain ⟨rfl, rfl⟩ := y
  have hn : i < n := by simpa [rngT] using hlt
  exact ⟨.int (lo + (i : Nat)), by simp [rngT, hn], Rep.int_, .inl rfl⟩
theorem zipT_get : ∀ (xs ys : List T) (i : Nat), (zipT xs ys)[i]? = match xs[i]?, ys[i]? with | some x, some y => some (T.tup [x, y]) | _, _ => none
  | [], ys, i => by simp [zipT]
  | x :: xs, [], i => by
    simp only [zipT]
    cases (x :: xs)[i]? <;> simp
  | x :: xs, y :: ys, 0 => by simp [zipT]
  | x :: xs, y :: ys, i + 1 => by simpa [zipT] using zipT_get xs ys i
theorem zipT_len : ∀ (xs ys : List T), (zipT xs ys).length = min xs.length ys.length
  | [], ys => by simp [zipT]
  | x :: xs, [] => by simp [zipT]
  | x :: xs, y :: ys => by simp [zipT, zipT_len xs ys]
theorem rep_pair {g : GW} {m : List Addr} {H : Hp} {p : Addr} {x y : V} {t u : T} (hp : H p = none) (hf : ∀ a, H a = none → a ∉ m ∧ a ∉ g.fb) (r : Rep g m H t x) (q : Rep g m H u y) : Rep g m (upd H p (.tup [x, y])) (.tup [t, u]) (.ref p) := by
  simp only [Rep]
  obtain ⟨h1, h2⟩ := hf p hp
  exact ⟨p, [x, y], rfl, .inl ⟨h1, h2, .inl upd_same⟩, RepL.cons (Rep.mono (Ext.new hp) _ r) (RepL.cons (Rep.mono (Ext.new hp) _ q) RepL.nil)⟩
theorem wk_zipL {m : List Addr} {H : Hp} {l k : List T} {a b : Addr} {vs ws : List V} {K : PySem.W.Frag} (ha : a ∉ m) (hh : H a = some (.lst vs)) (r : RepL g m H l vs) (hb : b ∉ m) (hh2 : H b = some (.lst ws)) (r2 : RepL g m H k ws) : Wk g m H (zipT l k) (Itz K a b) := by
  refine ⟨fun H => SqL K H a vs ∧ SqL K H b ws, YPair (fun i => vs[i]?) (fun i => ws[i]?), by rw [zipT_len, r.length, r2.length]; exact walk_zip rfl, fun m1 H1 x => ⟨SqL.of (x.keep _ _ hh ha), SqL.of (x.keep _ _ hh2 hb)⟩, fun i fb' m1 H1 x H2 hlt e hfb hf y => ?_⟩
  obtain ⟨T', x', y', rfl, h0, rfl, h1, h2⟩ := y
  have h1 : vs[i]? = some x' := h1
  have h2 : ws[i]? = some y' := h2
  have hi : i < vs.length := (List.getElem?_eq_some_iff.mp h1).1
  have hj : i < ws.length := (List.getElem?_eq_some_iff.mp h2).1
  rw [← r.length] at hi
  rw [← r2.length] at hj
  obtain ⟨v, e1, q1⟩ := r.get (List.getElem?_eq_getElem hi)
  obtain ⟨w, e2, q2⟩ := r2.get (List.getElem?_eq_getElem hj)
  rw [h1] at e1; cases e1
  rw [h2] at e2; cases e2
  exact ⟨.tup [l[i], k[i]], by rw [zipT_get, List.getElem?_eq_getElem hi, List.getElem?_eq_getElem hj], rep_pair (g := g.w fb') h0 hf (Rep.grow e hfb q1) (Rep.grow e hfb q2), .inr ⟨T', _, h0, rfl⟩⟩
theorem walk_zipT {K : PySem.W.Frag} {a b : Addr} {xs ys : List V} {n : Nat} (hn : n = min xs.length ys.length) : Walk (RZ.ItzT K a b) n (fun H => SqT K H a xs ∧ SqT K H b ys) (YPair (fun i => xs[i]?) (fun i => ys[i]?)) := by
  subst hn
  refine ⟨fun i _ hi q => ?_, fun _ q => ⟨xs, ys, q.1, q.2, by omega⟩, fun i H v H' _ q y => ?_⟩
  · have h1 : i < xs.length := by omega
    have h2 : i < ys.length := by omega
    exact ⟨xs, ys, xs[i], ys[i], q.1, q.2, by simp [h1], by simp [h2]⟩
  · obtain ⟨T, x, z, h1, h2, h3, h4, h5⟩ := y
    exact ⟨T, x, z, h1, h2, h3, h4 xs q.1, h5 ys q.2⟩
theorem wk_zipT {m : List Addr} {H : Hp} {l k : List T} {a b : Addr} {vs ws : List V} (hh : (a ∉ m ∧ Rd H a (.tup vs)) ∨ KTup g.K a vs) (r : RepL g m H l vs) (hh2 : (b ∉ m ∧ Rd H b (.tup ws)) ∨ KTup g.K b ws) (r2 : RepL g m H k ws) : Wk g m H (zipT l k) (RZ.ItzT g.K a b) := by
  have st : ∀ {c : Addr} {us : List V} {m1 : List Addr} {H1 : Hp}, (c ∉ m ∧ Rd H c (.tup us)) ∨ KTup g.K c us → Ext m H m1 H1 → SqT g.K H1 c us := fun {c us m1 H1} hh x => by
    rcases hh with ⟨h1, h2⟩ | h2
    · exact .inl (Rd.ext x h2 h1).2
    · exact .inr h2
  refine ⟨fun H => SqT g.K H a vs ∧ SqT g.K H b ws, YPair (fun i => vs[i]?) (fun i => ws[i]?), by rw [zipT_len, r.length, r2.length]; exact walk_zipT rfl, fun m1 H1 x => ⟨st hh x, st hh2 x⟩, fun i fb' m1 H1 x H2 hlt e hfb hf y => ?_⟩
  obtain ⟨T', x', y', rfl, h0, rfl, h1, h2⟩ := y
  have h1 : vs[i]? = some x' := h1
  have h2 : ws[i]? = some y' := h2
  have hi : i < vs.length := (List.getElem?_eq_some_iff.mp h1).1
  have hj : i < ws.length := (List.getElem?_eq_some_iff.mp h2).1
  rw [← r.length] at hi
  rw [← r2.length] at hj
  obtain ⟨v, e1, q1⟩ := r.get (List.getElem?_eq_getElem hi)
  obtain ⟨w, e2, q2⟩ := r2.get (List.getElem?_eq_getElem hj)
  rw [h1] at e1; cases e1
  rw [h2] at e2; cases e2
  exact ⟨.tup [l[i], k[i]], by rw [zipT_get, List.getElem?_eq_getElem hi, List.getElem?_eq_getElem hj], rep_pair (g := g.w fb') h0 hf (Rep.grow e hfb q1) (Rep.grow e hfb q2), .inr ⟨T', _, h0, rfl⟩⟩
theorem enuT_len : ∀ (l : List T) (k : Nat), (enuT k l).length = l.length
  | [], k => rfl
  | x :: l, k => by simp [enuT, enuT_len l (k + 1)]
theorem enuT_get : ∀ (l : List T) (k i : Nat), (enuT k l)[i]? = match l[i]? with | some x => some (T.tup [.int ((k + i : Nat) : Int), x]) | none => none
  | [], k, i => by simp [enuT]
  | x :: l, k, 0 => by simp [enuT]
  | x :: l, k, i + 1 => by
    have := enuT_get l (k + 1) i
    simp only [enuT, List.getElem?_cons_succ]
    rw [this, show k + 1 + i = k + (i + 1) by omega]
theorem wk_enu {m : List Addr} {H : Hp} {l : List T} {a : Addr} {vs : List V} {K : PySem.W.Frag} (ha : a ∉ m) (hh : H a = some (.lst vs)) (r : RepL g m H l vs) : Wk g m H (enuT 0 l) (Ite K a) := by
  refine ⟨fun H => SqL K H a vs, YPair (fun i => some (.int (i : Nat))) (fun i => vs[i]?), by rw [enuT_len, r.length]; exact walk_enum, fun m1 H1 x => SqL.of (x.keep _ _ hh ha), fun i fb' m1 H1 x H2 hlt e hfb hf y => ?_⟩
  obtain ⟨T', x', y', rfl, h0, rfl, h1, h2⟩ := y
  have h1 : some (V.int (i : Nat)) = some x' := h1
  cases h1
  have h2 : vs[i]? = some y' := h2
  have hi : i < vs.length := (List.getElem?_eq_some_iff.mp h2).1
  rw [← r.length] at hi
  obtain ⟨v, e1, q1⟩ := r.get (List.getElem?_eq_getElem hi)
  rw [h2] at e1; cases e1
  exact ⟨.tup [.int (i : Nat), l[i]], by rw [enuT_get, List.getElem?_eq_getElem hi]; simp, rep_pair (g := g.w fb') h0 hf Rep.int_ (Rep.grow e hfb q1), .inr ⟨T', _, h0, rfl⟩⟩

def GoodI (g : GW) (W : WX) (m : List Addr) (σ : L2.St) (H : Hp) (R : It → Hp → Prop) : Out → Prop
  | .ok (.tup l) S' => ∀ J m' H', Ext m H m' H' → SRep g m' H' S' → Wk g m' H' l J → R J H'
  | .ok _ _ => False
  | .ex c p S' => ∀ cls d m' H', Ext m H m' H' → SRep g m' H' S' → XRep g H' c p cls d → W cls d σ H'
def tI (g : GW) (W : WX) (f : Rho → Sto → Res) : TI := fun σ H R => ∃ fb m ρ S o, RS (g.w fb) m σ H ρ S ∧ f ρ S = some o ∧ GoodI (g.w fb) W m σ H R o

/-- a list, a tuple, as it comes -/
def iSeq (K : PySem.W.Frag) (tl : TE) : TI := fun σ H R => tl σ H fun x H1 => (∃ a xs, x = .ref a ∧ SqL K H1 a xs ∧ R (Itl K a) H1) ∨ ∃ a xs, x = .ref a ∧ SqT K H1 a xs ∧ R (Itt K a) H1
theorem pi_seq {tg l : Expr} {tl : TE} (hl : PE X l tl) : PI X tg l (iSeq X.K tl) := by
  refine ⟨fun pins s σ H R I h => ?_⟩
  refine thn (hl.run pins s σ H _ I h) fun v s1 ⟨x, H1, I1, r1, q1⟩ => ?_
  have fp : ∀ b ∈ [s1.heap.objs.size], FpOk X pins H1 b := fun b hb => by
    have e : b = s1.heap.objs.size := by simpa using hb
    subst e
    exact I1.fpOk (Nat.le_refl _) (I1.hok.fresh (Nat.le_refl _))
  rcases q1 with ⟨a, xs, e, hq, q⟩ | ⟨a, xs, e, hq, q⟩
  · subst e
    cases r1
    obtain ⟨its, rv, p, hz⟩ := I1.list hq
    refine wpAny_pyIter_list p.isList ?_
    exact ⟨s1.heap.objs.size, [s1.heap.objs.size], _, _, H1, rfl, I1.kept (t' := s1.toks) fun b o e => Heap.get?_push_of_some _ e, turn_list a _, ⟨_, Heap.get?_push_size _ rfl, rfl, rfl⟩, fp, q⟩
  · subst e
    cases r1
    obtain ⟨its, rv, p, hz⟩ := I1.tuple hq
    refine wpAny_pyIter_tuple (show s1.heap.IsTuple a its.toArray from p) ?_
    exact ⟨s1.heap.objs.size, [s1.heap.objs.size], _, _, H1, rfl, I1.kept (t' := s1.toks) fun b o e => Heap.get?_push_of_some _ e, turn_tuple a _, ⟨_, Heap.get?_push_size _ rfl, rfl, rfl⟩, fp, q⟩

/-- the first part of what is walked -/
theorem tI_bnd {fb : List Addr} {f : Rho → Sto → Res} {k : T → Sto → Res} {m : List Addr} {σ : L2.St} {H : Hp} {ρ : Rho} {S : Sto} {o : Out} {R : It → Hp → Prop} {Q' : VK}
    (h : bnd (f ρ S) k = some o) (rs : RS (g.w fb) m σ H ρ S) (Gd : GoodI (g.w fb) W m σ H R o)
    (hk : ∀ t S1 v m1 H1, k t S1 = some o → Ext m H m1 H1 → RS (g.w fb) m1 σ H1 ρ S1 → Rep (g.w fb) m1 H1 t v → GoodI (g.w fb) W m1 σ H1 R o → Q' v H1) : tE g W f σ H Q' := by
  cases e : f ρ S with
  | none => rw [e] at h; cases h
  | some r =>
    rw [e] at h
    refine ⟨fb, m, ρ, S, r, rs, e, ?_⟩
    cases r with
    | ok t S1 =>
      intro v m1 H1 x sr rp
      refine hk t S1 v m1 H1 h x ⟨rs.env.mono x, sr⟩ rp ?_
      cases o with
      | ok u S2 => cases u <;> first | exact Gd | exact fun J m2 H2 x2 => Gd J m2 H2 (x.trans x2)
      | ex c p S2 => exact fun cls d m2 H2 x2 => Gd cls d m2 H2 (x.trans x2)
    | ex c p S1 =>
      have : o = .ex c p S1 := (Option.some.inj h).symm
      subst this
      exact Gd
theorem pi_sq {a : IE} {tg e : Expr} (xo : XOk G g E W X) (ha : PE X e (tE g W (evE E a))) : PI X tg e (tI g W (evE E (.sq a))) := by
  refine (pi_seq ha).of fun σ H R ⟨fb, m, ρ, S, o, rs, e, Gd⟩ => ?_
  simp only [evE] at e
  refine tI_bnd e rs Gd fun t S1 v m1 H1 e1 x1 rs1 r1 Gd1 => ?_
  split at e1
  · rename_i l hl
    simp only [Option.some.injEq] at e1
    subst e1
    cases t <;> simp only [seqT] at hl <;> try (cases hl; done)
    · rename_i l'
      simp only [Option.some.injEq] at hl
      subst hl
      have r1' := r1
      simp only [Rep] at r1'
      obtain ⟨a', vs, rfl, h2, h3⟩ := r1'
      obtain ⟨a2, vs2, e2, q1, l1⟩ := RepD.tup (RepD.of r1)
      have hh : (a' ∉ m1 ∧ Rd H1 a' (.tup vs)) ∨ KTup (g.w fb).K a' vs := by
        rcases h2 with ⟨h2, _, h4⟩ | h2
        · exact .inl ⟨h2, h4⟩
        · exact .inr h2
      have sq : SqT g.K H1 a' vs := by
        rcases hh with ⟨_, h4⟩ | h2
        · exact .inl h4
        · exact .inr h2
      rw [← xo.K] at sq
      refine .inr ⟨a', vs, rfl, sq, ?_⟩
      rw [xo.K]
      exact Gd1 _ m1 H1 (Ext.refl _ _) rs1.sto (wk_tup (g := g.w fb) hh h3)
    · rename_i l'
      simp only [Option.some.injEq] at hl
      subst hl
      simp only [Rep] at r1
      obtain ⟨a', vs, rfl, h2, _, h3, h4⟩ := r1
      exact .inl ⟨a', vs, rfl, SqL.of h3, Gd1 _ m1 H1 (Ext.refl _ _) rs1.sto (wk_list h2 h3 h4)⟩
  · cases e1
end
end Fw

namespace Fw
open PySem L2 PyProof.Rows

section
variable {G : Gm} {g : GW} {E : EV} {W : WX} {X : Cx}

theorem goodI_ext {m m1 : List Addr} {σ : L2.St} {H H1 : Hp} {R : It → Hp → Prop} {o : Out} (Gd : GoodI g W m σ H R o) (x : Ext m H m1 H1) : GoodI g W m1 σ H1 R o := by
  cases o with
  | ok u S2 => cases u <;> first | exact Gd | exact fun J m2 H2 x2 => Gd J m2 H2 (x.trans x2)
  | ex c p S2 => exact fun cls d m2 H2 x2 => Gd cls d m2 H2 (x.trans x2)

theorem pi_r1 {a : IE} {tg e y : Expr} {x : Str} (xo : XOk G g E W X) (hv : vCall e = some (x, [y])) (hx : x = "range") (hg : bltB G x = true) (ha : PE X y (tE g W (evE E a))) (hs : noStar y = true) : PI X tg e (tI g W (evE E (.rg1 a))) := by
  obtain ⟨p, q, a', es', rfl, hr⟩ := vCall_eq hv
  cases hr
  subst hx
  obtain ⟨gl, db, hm, nn⟩ := bltB_gl xo hg
  refine (pi_range1 gl hm (pa_cons ha pa_nil (starEach_cons hs)) (star1 hs)).of fun σ H R ⟨fb, m, ρ, S, o, rs, e, Gd⟩ => ?_
  simp only [evE] at e
  refine tI_bnd e rs Gd fun t S1 v m1 H1 e1 x1 rs1 r1 Gd1 => ?_
  cases t <;> simp only at e1 <;> try (cases e1; done)
  rename_i j
  split at e1
  · rename_i hj
    simp only [Option.some.injEq] at e1
    subst e1
    simp only [okR, Bool.and_eq_true, decide_eq_true_eq] at hj
    exact ⟨j, by rw [RepD.int (RepD.of r1)], hj.1, hj.2, Gd1 _ m1 H1 (Ext.refl _ _) rs1.sto wk_rng⟩
  · cases e1
theorem pi_r2 {a b : IE} {tg e y z : Expr} {x : Str} (xo : XOk G g E W X) (hv : vCall e = some (x, [y, z])) (hx : x = "range") (hg : bltB G x = true) (ha : PE X y (tE g W (evE E a))) (hb : PE X z (tE g W (evE E b))) (hs : noStar y = true) (hs2 : noStar z = true) :
    PI X tg e (tI g W (evE E (.rg2 a b))) := by
  obtain ⟨p, q, a', es', rfl, hr⟩ := vCall_eq hv
  cases hr
  subst hx
  obtain ⟨gl, db, hm, nn⟩ := bltB_gl xo hg
  refine (pi_range2 gl hm (pa_cons ha (pa_cons hb pa_nil (starEach_cons hs2)) (starEach_cons hs)) (by rw [starEach_cons hs, starEach_cons hs2]; rfl) (star1 hs2)).of fun σ H R ⟨fb, m, ρ, S, o, rs, e, Gd⟩ => ?_
  simp only [evE] at e
  refine tI_bnd e rs Gd fun t S1 v m1 H1 e1 x1 rs1 r1 Gd1 => ?_
  refine tI_bnd e1 rs1 Gd1 fun u S2 w m2 H2 e2 x2 rs2 r2 Gd2 => ?_
  cases t <;> cases u <;> simp only at e2 <;> try (cases e2; done)
  rename_i i j
  split at e2
  · rename_i hj
    simp only [Option.some.injEq] at e2
    subst e2
    simp only [okR, Bool.and_eq_true, decide_eq_true_eq] at hj
    exact ⟨i, j, by rw [RepD.int (RepD.of (Rep.mono x2 _ r1)), RepD.int (RepD.of r2)], ⟨hj.1.1, hj.1.2, hj.2.1, hj.2.2⟩, Gd2 _ m2 H2 (Ext.refl _ _) rs2.sto wk_rng⟩
  · cases e2
theorem star1b {e : Expr} {env : Env} {pos : Pos} (h : noStar e = true) : (backTo pos (starEach [e] env)).any (·.1) = false := by rw [star1 h]; rfl
theorem rep_rgV {g : GW} {m : List Addr} {H : Hp} (i j : Int) : RepL g m H (rngT i (j - i).toNat) (rgV i j) := by
  unfold rngT rgV
  generalize List.range (j - i).toNat = l
  induction l with
  | nil => exact RepL.nil
  | cons a l ih => exact RepL.cons Rep.int_ ih
theorem pe_lrg {bx : Bool} {a b : IE} {e y u v : Expr} {x z : Str} (xo : XOk G g E W X) (hv : vCall e = some (x, [y])) (hv2 : vCall y = some (z, [u, v])) (hx : x = "list") (hz : z = "range") (hg : bltB G x = true) (hg2 : bltB G z = true) (hsy : noStar y = true)
    (ha : PE X u (tE g W (evE E a))) (hb : PE X v (tE g W (evE E b))) (hs : noStar u = true) (hs2 : noStar v = true) : PE X e (tE g W (evE E (.lrg bx a b))) := by
  obtain ⟨p, q, a', es', rfl, hr⟩ := vCall_eq hv
  cases hr
  obtain ⟨p2, q2, a2, es2, rfl, hr2⟩ := vCall_eq hv2
  cases hr2
  subst hx
  subst hz
  obtain ⟨gl, db, hm, nn⟩ := bltB_gl xo hg
  obtain ⟨gl2, db2, hm2, nn2⟩ := bltB_gl xo hg2
  refine (pe_listRg xo.calm gl hm (prg_2 gl2 hm2 ha hb (starEach_cons hs) (starEach_cons hs2) (star1b hs2)) (starEach_cons hsy)).of fun σ H Q ⟨fb, m, ρ, S, o, rs, e, Gd⟩ => ?_
  simp only [evE] at e
  refine tE_bnd e rs Gd fun t S1 w1 m1 H1 e1 x1 rs1 r1 Gd1 => ?_
  refine tE_bnd e1 rs1 Gd1 fun t2 S2 w m2 H2 e2 x2 rs2 r2 Gd2 => ?_
  cases t <;> cases t2 <;> simp only at e2 <;> try (cases e2; done)
  rename_i i j
  split at e2
  · rename_i hj
    simp only [Option.some.injEq] at e2
    subst e2
    simp only [okR, Bool.and_eq_true, decide_eq_true_eq] at hj
    exact ⟨i, j, by rw [RepD.int (RepD.of (Rep.mono x2 _ r1))], by rw [RepD.int (RepD.of r2)], ⟨hj.1.1.1, hj.1.1.2, hj.1.2.1, hj.1.2.2, hj.2⟩, fin_lst Gd2 rs2.sto (rep_rgV i j)⟩
  · cases e2
theorem rep_tup {m : List Addr} {H : Hp} {l : List T} {v : V} (r : Rep g m H (.tup l) v) : ∃ a vs, v = .ref a ∧ ((a ∉ m ∧ Rd H a (.tup vs)) ∨ KTup g.K a vs) ∧ SqT g.K H a vs ∧ RepL g m H l vs := by
  have r1' := r
  simp only [Rep] at r1'
  obtain ⟨a', vs, rfl, h2, h3⟩ := r1'
  refine ⟨a', vs, rfl, ?_, ?_, h3⟩
  · rcases h2 with ⟨h2, _, h4⟩ | h2
    · exact .inl ⟨h2, h4⟩
    · exact .inr h2
  · rcases h2 with ⟨_, _, h4⟩ | h2
    · exact .inl h4
    · exact .inr h2
theorem rep_lst {m : List Addr} {H : Hp} {l : List T} {v : V} (r : Rep g m H (.lst l) v) : ∃ a vs, v = .ref a ∧ a ∉ m ∧ H a = some (.lst vs) ∧ RepL g m H l vs := by
  simp only [Rep] at r
  obtain ⟨a', vs, rfl, h2, _, h3, h4⟩ := r
  exact ⟨a', vs, rfl, h2, h3, h4⟩
theorem pi_z {a b : IE} {tg e y z : Expr} {ts : List Expr} {x : Str} (xo : XOk G g E W X) (hv : vCall e = some (x, [y, z])) (hx : x = "zip") (hg : bltB G x = true) (ht : vTup tg = some ts) (ha : PE X y (tE g W (evE E a))) (hb : PE X z (tE g W (evE E b))) (hs : noStar y = true) (hs2 : noStar z = true) :
    PI X tg e (tI g W (evE E (.zp a b))) := by
  obtain ⟨p, q, a', es', rfl, hr⟩ := vCall_eq hv
  cases hr
  subst hx
  obtain ⟨kk, tp, rfl⟩ := vTup_eq ht
  obtain ⟨gl, db, hm, nn⟩ := bltB_gl xo hg
  refine (RZ.pi_zipA gl hm (pa_cons ha (pa_cons hb pa_nil (starEach_cons hs2)) (starEach_cons hs)) (starEach_cons hs) (by rw [starEach_cons hs2]; rfl)).of fun σ H R ⟨fb, m, ρ, S, o, rs, e, Gd⟩ => ?_
  simp only [evE] at e
  refine tI_bnd e rs Gd fun t S1 v m1 H1 e1 x1 rs1 r1 Gd1 => ?_
  refine tI_bnd e1 rs1 Gd1 fun u S2 w m2 H2 e2 x2 rs2 r2 Gd2 => ?_
  have r1 := Rep.mono x2 _ r1
  cases t <;> cases u <;> simp only at e2 <;> try (cases e2; done)
  · simp only [Option.some.injEq] at e2
    subst e2
    obtain ⟨c, vs, rfl, h1, h2, h3⟩ := rep_tup r1
    obtain ⟨d, ws, rfl, k1, k2, k3⟩ := rep_tup r2
    refine ⟨c, d, vs, ws, rfl, .inr ⟨by rw [xo.K]; exact h2, by rw [xo.K]; exact k2, ?_⟩⟩
    rw [xo.K]
    exact Gd2 _ m2 H2 (Ext.refl _ _) rs2.sto (wk_zipT (g := g.w fb) h1 h3 k1 k3)
  · simp only [Option.some.injEq] at e2
    subst e2
    obtain ⟨c, vs, rfl, h1, h2, h3⟩ := rep_lst r1
    obtain ⟨d, ws, rfl, k1, k2, k3⟩ := rep_lst r2
    exact ⟨c, d, vs, ws, rfl, .inl ⟨SqL.of h2, SqL.of k2, Gd2 _ m2 H2 (Ext.refl _ _) rs2.sto (wk_zipL h1 h2 h3 k1 k2 k3)⟩⟩
theorem pi_e {a : IE} {tg e y : Expr} {ts : List Expr} {x : Str} (xo : XOk G g E W X) (hv : vCall e = some (x, [y])) (hx : x = "enumerate") (hg : bltB G x = true) (ht : vTup tg = some ts) (ha : PE X y (tE g W (evE E a))) (hs : noStar y = true) :
    PI X tg e (tI g W (evE E (.en a))) := by
  obtain ⟨p, q, a', es', rfl, hr⟩ := vCall_eq hv
  cases hr
  subst hx
  obtain ⟨kk, tp, rfl⟩ := vTup_eq ht
  obtain ⟨gl, db, hm, nn⟩ := bltB_gl xo hg
  refine (pi_enum gl hm (pa_cons ha pa_nil (starEach_cons hs)) (star1 hs)).of fun σ H R ⟨fb, m, ρ, S, o, rs, e, Gd⟩ => ?_
  simp only [evE] at e
  refine tI_bnd e rs Gd fun t S1 v m1 H1 e1 x1 rs1 r1 Gd1 => ?_
  cases t <;> simp only at e1 <;> try (cases e1; done)
  simp only [Option.some.injEq] at e1
  subst e1
  obtain ⟨c, vs, rfl, h1, h2, h3⟩ := rep_lst r1
  exact ⟨c, vs, rfl, SqL.of h2, Gd1 _ m1 H1 (Ext.refl _ _) rs1.sto (wk_enu h1 h2 h3)⟩

/-! ### comprehensions -/
theorem relS_ok {sc : Scope} {cl : List (Str × Addr)} {C : Addr} {scope : Scope} : (compEnvC scope cl C X.env).scope = relS scope X.env.scope := rfl
theorem takes_no {X : Cx} : Takes X (fun _ _ _ _ => False) := fun _ _ ⟨_, _, _, _, _, _, _, _, _, _, _, _, _, _, _, _, w⟩ => w.elim
theorem blk_ok (xo : XOk G g E W X) (s : Shared) (H : Hp) (scope : Scope) (C : Addr) (cl : List (Str × Addr)) (fp : List Addr) : XOk (G.blk scope) g E (fun _ _ _ _ => False) (X.blk s H scope (compEnvC scope cl C X.env) fp) where
  N := xo.N
  nd := xo.nd
  sc := by
    show relS scope X.env.scope = relS scope G.sc
    rw [xo.sc]
  K := xo.K
  calm := xo.calm
  fn := fun _ h => h
  tk := takes_no
  un := xo.un
  blt := xo.blt
  call := xo.call
  callL := xo.callL
  callv := xo.callv
  callvL := xo.callvL
  lam := fun _ _ z => (by cases z)
  cst := xo.cst

/-- one turn of a comprehension -/
def lcG (E : EV) (own : List Nat) (elt : IE) (tg : Tg) (cnd : IE) (ρ : Rho) : T → Sto → Option (Option T × Sto) := fun t S => match bindT tg t (wipeR ρ own) with
  | some ρ' => (match evE E cnd ρ' S with
    | some (.ok c S') => (match truthy S' c with
      | some true => (match evE E elt ρ' S' with | some (.ok y S'') => some (some y, S'') | _ => none)
      | some false => some (none, S')
      | none => none)
    | _ => none)
  | none => none
theorem lc_ev {bx : Bool} {own : List Nat} {elt : IE} {tg : Tg} {src cnd : IE} {ρ : Rho} {S : Sto} : evE E (.lc bx own elt tg src cnd) ρ S = bnd (evE E src ρ S) fun x S1 => tups x fun l => match lcL (lcG E own elt tg cnd ρ) l [] S1 with
    | some (ys, S2) => some (newL bx (.lst ys) S2)
    | none => none := rfl

theorem wipe_idem (σ : L2.St) : ∀ vs : List Nat, L2.wipe (L2.wipe σ vs) vs = L2.wipe σ vs := fun vs => by
  have h : ∀ ws : List Nat, (∀ i ∈ ws, i ∈ vs) → L2.wipe (L2.wipe σ ws) vs = L2.wipe σ vs := by
    intro ws
    induction ws with
    | nil => intro _; rfl
    | cons w r ih =>
      intro hw
      show L2.wipe ((L2.wipe σ r).set w none) vs = L2.wipe σ vs
      rw [wipe_set (hw w List.mem_cons_self)]
      exact ih fun i hi => hw i (List.mem_cons_of_mem _ hi)
  exact h vs fun _ hi => hi

theorem lcL_cons {gt : T → Sto → Option (Option T × Sto)} {x : T} {xs acc : List T} {S : Sto} {r : List T × Sto} (h : lcL gt (x :: xs) acc S = some r) :
    (∃ y S', gt x S = some (some y, S') ∧ acc.length < line ∧ lcL gt xs (acc ++ [y]) S' = some r) ∨ ∃ S', gt x S = some (none, S') ∧ lcL gt xs acc S' = some r := by
  simp only [lcL] at h
  split at h
  · rename_i y S' e
    split at h
    · rename_i hl
      exact .inl ⟨y, S', e, hl, h⟩
    · cases h
  · rename_i S' e
    exact .inr ⟨S', e, h⟩
  · cases h

/-- the comprehension's reading -/
theorem lc_read {own : List Nat} {elt cnd : IE} {tg : Tg} {wi : TI} {tt : TT} {bx : Bool} {src : IE} (hown : ∀ i ∈ slots tg, i ∈ own)
    (hw : ∀ σ H R, tI g W (evE E src) σ H R → wi σ H R)
    (ht : ∀ σ H Q, tT g (fun _ _ _ _ => False) (evE E cnd) σ H Q → tt σ H Q) {σ : L2.St} {H : Hp} {Q : VK} (h : tE g W (evE E (.lc bx own elt tg src cnd)) σ H Q) :
    tLc wi (tG g tg) tt (tE g (fun _ _ _ _ => False) (evE E elt)) own σ H Q := by
  obtain ⟨fb, m, ρ, S, o, rs, e, Gd⟩ := h
  rw [lc_ev] at e
  refine hw σ H _ ?_
  -- the source
  cases es : evE E src ρ S with
  | none => rw [es] at e; cases e
  | some r0 =>
    rw [es] at e
    refine ⟨fb, m, ρ, S, r0, rs, es, ?_⟩
    cases r0 with
    | ex c p S1 =>
      have : o = .ex c p S1 := (Option.some.inj e).symm
      subst this
      exact Gd
    | ok t S1 =>
      cases t <;> try (cases e; done)
      rename_i l
      have e : (match lcL (lcG E own elt tg cnd ρ) l [] S1 with | some (ys, S2) => some (newL bx (.lst ys) S2) | none => none) = some o := e
      split at e
      · rename_i ys S2 el
        simp only [Option.some.injEq] at e
        subst e
        intro J m1 H1 x1 sr1 wk D hD
        have env1 := rs.env.mono x1
        have Gd1 := Gd.ext x1
        obtain ⟨GG, Y, w, hG, hY⟩ := wk.ex
        have D1 : D ∉ m1 := sr1.fresh hD
        have Df : D ∉ fb := sr1.freshF hD
        have hf0 : ∀ a ∈ (D :: fb), a ∈ (g.w fb).fb ∨ H1 a = none := fun a ha => by
          rcases List.mem_cons.mp ha with q | q
          · exact .inr (by rw [q]; exact hD)
          · exact .inl q
        refine lc_it w (fun i H2 => ∃ m2 S acc vs, Ext m1 H1 m2 H2 ∧ SRep (g.w (D :: fb)) m2 H2 S ∧ H2 D = some (.lst vs) ∧ RepL (g.w (D :: fb)) m2 H2 acc vs ∧ lcL (lcG E own elt tg cnd ρ) (l.drop i) acc S = some (ys, S2)) ?_ ?_ ?_ ?_
        · -- at first
          refine ⟨m1, S1, [], [], Ext.new hD, ?_, upd_same, RepL.nil, el⟩
          refine ⟨sr1.len, sr1.nd, fun n ob a h1 h2 => ?_, fun a ha => ?_, tab_new sr1.tab hD⟩
          · have z := sr1.at_ n ob a h1 h2
            refine z.step (g := g.w fb) (fb' := D :: fb) (fun _ _ q => q) (fun b o q _ n f => ⟨by rw [upd_ne (ne_of_none q hD)]; exact q, n, fun z => ?_⟩) (upd_ne fun q => ?_)
            · rcases hf0 b z with z | z
              · exact f z
              · rw [q] at z; cases z
            · obtain ⟨u, e⟩ := z.there
              rw [q, hD] at e; cases e
          · rcases List.mem_cons.mp ha with q | q
            · subst q; exact ⟨⟨[], upd_same⟩, D1⟩
            · obtain ⟨⟨ws, z1⟩, z2⟩ := sr1.fbs a q
              exact ⟨⟨ws, by rw [upd_ne (ne_of_none z1 hD)]; exact z1⟩, z2⟩
        · -- the source stands still
          rintro i H2 _ ⟨m2, S, acc, vs, x2, _⟩
          exact hG m2 H2 x2
        · -- a turn
          rintro i x H2 H3 hi ⟨m2, S, acc, vs, x2, sr2, d2, rl2, el2⟩ y
          obtain ⟨t, ht', rt, hH⟩ := hY i (D :: fb) m2 H2 x H3 hi x2 hf0 (fun a ha => ⟨sr2.fresh ha, sr2.freshF ha⟩) y
          have x23 : Ext m2 H2 m2 H3 := by
            rcases hH with rfl | ⟨p, o, hp, rfl⟩
            · exact Ext.refl _ _
            · exact Ext.new hp
          have sr3 : SRep (g.w (D :: fb)) m2 H3 S := by
            rcases hH with rfl | ⟨p, o, hp, rfl⟩
            · exact sr2
            · exact sr2.new hp
          have x3 := x2.trans x23
          have d3 : H3 D = some (.lst vs) := x23.keep _ _ d2 (sr2.fbs D List.mem_cons_self).2
          have rl3 := RepL.mono x23 acc rl2
          have env3 : ERep (g.w (D :: fb)) m2 H3 ρ σ := ⟨env1.1, fun j u q => by
            obtain ⟨v, q1, q2⟩ := env1.2 j u q
            exact ⟨v, q1, Rep.grow x3 hf0 q2⟩⟩
          have hdrop : l.drop i = t :: l.drop (i + 1) := by
            obtain ⟨hlt, e⟩ := List.getElem?_eq_some_iff.mp ht'
            rw [List.drop_eq_getElem_cons hlt, e]
          rw [hdrop] at el2
          have turn : ∃ ρ' c S', bindT tg t (wipeR ρ own) = some ρ' ∧ evE E cnd ρ' S = some (.ok c S') ∧ ((truthy S' c = some true ∧ ∃ y S'', evE E elt ρ' S' = some (.ok y S'') ∧ acc.length < line ∧ lcL (lcG E own elt tg cnd ρ) (l.drop (i + 1)) (acc ++ [y]) S'' = some (ys, S2)) ∨ (truthy S' c = some false ∧ lcL (lcG E own elt tg cnd ρ) (l.drop (i + 1)) acc S' = some (ys, S2))) := by
            have key : ∀ {r}, lcG E own elt tg cnd ρ t S = some r → ∃ ρ' c S', bindT tg t (wipeR ρ own) = some ρ' ∧ evE E cnd ρ' S = some (.ok c S') ∧ ((truthy S' c = some true ∧ ∃ y S'', evE E elt ρ' S' = some (.ok y S'') ∧ r = (some y, S'')) ∨ (truthy S' c = some false ∧ r = (none, S'))) := by
              intro r q
              unfold lcG at q
              split at q
              · rename_i ρ' hb
                split at q
                · rename_i c S' hc
                  split at q
                  · rename_i htr
                    split at q
                    · rename_i y S'' hy
                      exact ⟨ρ', c, S', hb, hc, .inl ⟨htr, y, S'', hy, (Option.some.inj q).symm⟩⟩
                    · cases q
                  · rename_i htr
                    exact ⟨ρ', c, S', hb, hc, .inr ⟨htr, (Option.some.inj q).symm⟩⟩
                  · cases q
                · cases q
              · cases q
            rcases lcL_cons el2 with ⟨y, S', q1, q2, q3⟩ | ⟨S', q1, q3⟩
            · obtain ⟨ρ', c, S1', hb, hc, q⟩ := key q1
              rcases q with ⟨htr, y', S'', hy, er⟩ | ⟨_, er⟩
              · cases er
                exact ⟨ρ', c, S1', hb, hc, .inl ⟨htr, y, S', hy, q2, q3⟩⟩
              · cases er
            · obtain ⟨ρ', c, S1', hb, hc, q⟩ := key q1
              rcases q with ⟨htr, y', S'', hy, er⟩ | ⟨htr, er⟩
              · cases er
              · cases er
                exact ⟨ρ', c, S', hb, hc, .inr ⟨htr, q3⟩⟩
          obtain ⟨ρ', c, S', hb, hc, res⟩ := turn
          refine ⟨D :: fb, m2, t, wipeR ρ own, ρ', S, ⟨env3.wipe own, sr3⟩, rt, hb, fun σ2 rs2 k2 => ⟨?_, ht σ2 H3 _ ?_⟩⟩
          · rw [k2 own hown, wipe_idem]
          refine ⟨D :: fb, m2, ρ', S, .ok c S', rs2, hc, ?_⟩
          rcases res with ⟨htr, y, S'', hy, hlen, hrest⟩ | ⟨htr, hrest⟩
          · refine ⟨true, htr, fun m4 H4 x4 sr4 => iteT ⟨D :: fb, m4, ρ', S', .ok y S'', ⟨rs2.env.mono x4, sr4⟩, hy, fun v m5 H5 x5 sr5 r5 => ?_⟩⟩
            have x35 := x4.trans x5
            have Dm3 : D ∉ m2 := (sr3.fbs D List.mem_cons_self).2
            have d5 : H5 D = some (.lst vs) := x35.keep _ _ d3 Dm3
            have Dm5 : D ∉ m5 := (sr5.fbs D List.mem_cons_self).2
            have rl5 := RepL.mono x35 acc rl3
            have upk : ∀ a o, H5 a = some o → NT o → a ∉ m5 → a ∉ (g.w (D :: fb)).fb → (upd H5 D (.lst (vs ++ [v]))) a = some o ∧ a ∉ m5 ∧ a ∉ (D :: fb) := fun a o q _ n f => ⟨by
              rw [upd_ne fun z => f (by rw [z]; exact List.mem_cons_self)]; exact q, n, f⟩
            refine ⟨vs, d5, by rw [← rl5.length, ← line_eq]; exact hlen, m5, S'', acc ++ [y], vs ++ [v], ?_, ?_, upd_same, ?_, hrest⟩
            · have z := x3.trans x35
              refine ⟨z.grow, fun a o q hn n => ?_, fun a q n => ?_⟩
              · rw [upd_ne (ne_of_none q hD)]; exact z.keepN a o q hn n
              · by_cases q2 : a = D
                · rw [q2]; exact ⟨_, upd_same, by intro ps z; cases z⟩
                · obtain ⟨u, n1, n2⟩ := z.there a q n
                  exact ⟨u, by rw [upd_ne q2]; exact n1, n2⟩
            · refine ⟨sr5.len, sr5.nd, fun n ob a h1 h2 => ?_, fun a ha => ?_, tab_write sr5.tab d5⟩
              · have z := sr5.at_ n ob a h1 h2
                have ha : a ≠ D := fun q => Dm5 (by rw [← q]; exact List.mem_of_getElem? h2)
                exact z.step (g := g.w (D :: fb)) (fb' := D :: fb) (fun _ _ q => q) upk (upd_ne ha)
              · obtain ⟨⟨ws, z1⟩, z2⟩ := sr5.fbs a ha
                refine ⟨?_, z2⟩
                by_cases q2 : a = D
                · rw [q2]; exact ⟨_, upd_same⟩
                · exact ⟨ws, by rw [upd_ne q2]; exact z1⟩
            · exact RepL.step (g := g.w (D :: fb)) (fb' := D :: fb) (fun _ _ q => q) upk _ (rl5.append (RepL.cons r5 RepL.nil))
          · refine ⟨false, htr, fun m4 H4 x4 sr4 => iteF ?_⟩
            exact ⟨m4, S', acc, vs, x3.trans x4, sr4, x4.keep _ _ d3 (sr3.fbs D List.mem_cons_self).2, RepL.mono x4 acc rl3, hrest⟩
        · -- the end
          rintro H2 ⟨m2, S, acc, vs, x2, sr2, d2, rl2, el2⟩
          rw [List.drop_length] at el2
          simp only [lcL, Option.some.injEq, Prod.mk.injEq] at el2
          obtain ⟨rfl, rfl⟩ := el2
          have Dm : D ∉ m2 := (sr2.fbs D List.mem_cons_self).2
          cases bx with
          | false =>
            have low : ∀ a o, H2 a = some o → NT o → a ∉ m2 → a ∉ (g.w (D :: fb)).fb → H2 a = some o ∧ a ∉ m2 ∧ a ∉ fb := fun a o q _ n f => ⟨q, n, fun z => f (List.mem_cons_of_mem _ z)⟩
            refine Gd1 (.ref D) m2 H2 x2 ⟨sr2.len, sr2.nd, fun n ob a h1 h2 => (sr2.at_ n ob a h1 h2).step (g := g.w (D :: fb)) (fb' := fb) (fun _ _ q => q) low rfl, fun a ha => sr2.fbs a (List.mem_cons_of_mem _ ha), sr2.tab⟩ ?_
            simp only [Rep]
            exact ⟨D, vs, rfl, Dm, Df, d2, RepL.step (g := g.w (D :: fb)) (fb' := fb) (fun _ _ q => q) low _ rl2⟩
          | true =>
            have low : ∀ a o, H2 a = some o → NT o → a ∉ m2 → a ∉ (g.w (D :: fb)).fb → H2 a = some o ∧ a ∉ m2 ++ [D] ∧ a ∉ fb := fun a o q _ n f => ⟨q, fun z => by
              rcases List.mem_append.mp z with z | z
              · exact n z
              · exact f (by simp only [List.mem_singleton] at z; rw [z]; exact List.mem_cons_self), fun z => f (List.mem_cons_of_mem _ z)⟩
            have hget : ∀ (n : Nat) (a : Addr), m2[n]? = some a → (m2 ++ [D])[n]? = some a := fun n a q => by
              rw [List.getElem?_append_left (List.getElem?_eq_some_iff.mp q).1]; exact q
            obtain ⟨k, hk1, hk2⟩ := x2.grow
            refine Gd1 (.ref D) (m2 ++ [D]) H2 ⟨⟨k ++ [D], by rw [hk1, List.append_assoc], fun a ha => ?_⟩, x2.keepN, x2.there⟩ ⟨by simp [sr2.len], ?_, fun n ob a h1 h2 => ?_, fun a ha => ?_, sr2.tab⟩ ?_
            · rcases List.mem_append.mp ha with q | q
              · exact hk2 a q
              · simp only [List.mem_singleton] at q; rw [q]
                rintro ⟨u, e, _⟩
                rw [hD] at e; cases e
            · refine List.nodup_append.mpr ⟨sr2.nd, by simp, fun a ha b hb e => ?_⟩
              simp only [List.mem_singleton] at hb
              subst hb; subst e
              exact Dm ha
            · by_cases hn : n < S.length
              · rw [List.getElem?_append_left hn] at h1
                rw [List.getElem?_append_left (by rw [sr2.len]; exact hn)] at h2
                exact (sr2.at_ n ob a h1 h2).step (g := g.w (D :: fb)) (fb' := fb) hget low rfl
              · have e1 : n = S.length := by
                  have := (List.getElem?_eq_some_iff.mp h1).1
                  simp at this
                  omega
                subst e1
                rw [List.getElem?_append_right (Nat.le_refl _)] at h1
                rw [List.getElem?_append_right (by rw [sr2.len]; exact Nat.le_refl _)] at h2
                simp [sr2.len] at h1 h2
                subst h1; subst h2
                exact ⟨vs, d2, RepL.step (g := g.w (D :: fb)) (fb' := fb) hget low _ rl2⟩
            · obtain ⟨z1, z2⟩ := sr2.fbs a (List.mem_cons_of_mem _ ha)
              refine ⟨z1, fun z => ?_⟩
              rcases List.mem_append.mp z with z | z
              · exact z2 z
              · simp only [List.mem_singleton] at z; exact Df (by rw [← z]; exact ha)
            · simp only [Rep]
              exact ⟨D, by rw [← sr2.len]; simp, rfl⟩
      · cases e
end
end Fw

namespace Fw
open PySem L2 PyProof.Rows

/-! ### lambdas -/
section
variable {G : Gm} {g : GW} {E : EV} {W : WX} {X : Cx}
theorem pick_mem {c : Nat} {t : T} : ∀ {hs : List (Nat × T)}, pick c hs = some t → (c, t) ∈ hs
  | [], h => by cases h
  | (d, u) :: r, h => by
    simp only [pick] at h
    split at h
    · rename_i q
      cases h
      rw [beq_iff_eq.mp q]
      exact List.mem_cons_self
    · exact List.mem_cons_of_mem _ (pick_mem h)
theorem vLam_eq {e body : Expr} {x : Str} {ps : Arguments} {sc : Scope} (h : vLam e = some (x, ps, body, sc)) : ∃ p lp q, e = .Call (.Name x p) [.Lambda ps body sc lp] [] q := by
  unfold vLam at h
  split at h
  · simp only [Option.some.injEq, Prod.mk.injEq] at h
    obtain ⟨rfl, rfl, rfl, rfl⟩ := h
    exact ⟨_, _, _, rfl⟩
  · cases h
theorem noArgs_eq {ps : Arguments} (h : noArgs ps = true) : ps = ⟨[], [], none, [], [], none, []⟩ := by
  unfold noArgs at h
  split at h
  · rfl
  · cases h
theorem pe_lm {f : Nat} {b : IE} {e body : Expr} {x : Str} {ps : Arguments} {sc : Scope} (xo : XOk G g E W X) (hv : vLam e = some (x, ps, body, sc)) (hn : G.lamN f = some x) (hg : glb G x = true) (hp : noArgs ps = true) (hs : LamX.lamSB G.sc sc = true)
    (sb : ∀ W' X', XOk (G.lm sc) g E W' X' → PE X' body (tE g W' (evE E b))) : PE X e (tE g W (evE E (.lam f b))) := by
  obtain ⟨p, lp, q, rfl⟩ := vLam_eq hv
  cases noArgs_eq hp
  obtain ⟨gl, db⟩ := glb_gl xo hg
  by_cases hl : E.lam f = none
  · refine ⟨fun pins s σ H Q I ⟨fb, m, ρ, S, o, rs, e, Gd⟩ => ?_⟩
    simp only [evE, hl] at e
    cases e
  obtain ⟨he, hm, hk, lk, hcg, hb, Sg, hNg, hva, hd, hcd, hG, TB, hcode, hmT, hu, hr, hx, hf, hfv⟩ := xo.lam f x hn hl
  rename_i a g0 c P k pg bg sg dV kV doc pm cdv ct oc an od osl Ng hts hds r
  have L : LamX.LamS X.env.scope sc := LamX.lamS_by (by rw [xo.sc]; exact hs)
  refine (LamX.pe_lamcall (T := g.T) (t := fun Ech => tE g (fun cls d _ H => Ech cls d H) (evE E b)) gl hm hk lk hcg hb Sg hNg hva hG TB hcode hmT hu hr L rfl (fun _ _ _ _ _ => rfl) (fun A outer s H Ech f' c' hr' => sb _ _ ?_) db hd hcd).of fun σ H Q ⟨fb, m, ρ, S, o, rs, e, Gd⟩ => ?_
  · have cok : ∀ f2, (G.nmL f2).isSome = true → CallOk (LamX.lamCx X A outer s H Ech sc f' c') g E.callL f2 := fun f2 h2 => by
      obtain ⟨fd, ps, F, kp, bi, len, _⟩ := hf f2 h2
      exact ⟨k, fd, ps, F, hr', kp, bi, len⟩
    refine ⟨xo.N, xo.nd, rfl, xo.K, rfl, fun _ z => (by cases z), takes_of rfl rfl rfl rfl, hr'.units, xo.blt, fun _ _ z => (by cases z), fun f2 x2 h2 => ?_, fun z => (by cases z), fun _ _ z => (by cases z), fun _ f2 ts S o z => cok f2 (hfv f2 ts S o z), xo.cst⟩
    have hsome : (G.nmL f2).isSome = true := by
      have h3 : G.nmL f2 = some x2 := h2
      rw [h3]; rfl
    obtain ⟨_, _, _, _, _, _, z⟩ := hf f2 hsome
    exact ⟨cok f2 hsome, z x2 h2⟩
  · refine ⟨rs.sto.tab, fun H1 eN T1 => ?_⟩
    have x1 : Ext m H m H1 := ⟨⟨[], by simp, by simp⟩, fun a o h hn _ => eN a o h hn, fun a _ ⟨o, h, hn⟩ => ⟨o, eN a o h hn, hn⟩⟩
    have sr1 : SRep (g.w fb) m H1 S := ⟨rs.sto.len, rs.sto.nd, fun n ob a h1 h2 => (rs.sto.at_ n ob a h1 h2).mono x1 (by
      obtain ⟨vs, z⟩ := rs.sto.boxL (List.mem_of_getElem? h2)
      rw [z, eN a _ z (by intro ps q; cases q)]), x1.fbs rs.sto.fbs, T1⟩
    have rs1 : RS (g.w fb) m σ H1 ρ S := ⟨rs.env.mono x1, sr1⟩
    simp only [evE, he] at e
    show tE g (fun cls d _ H => hOk X.K g Q hds cls d H) (evE E b) σ H1 (fun _ H' => Q (.str r) H')
    split at e
    · rename_i t S' ht
      simp only [Option.some.injEq] at e
      subst e
      exact ⟨fb, m, ρ, S, _, rs1, ht, fun v m' H' x2 sr _ => Gd _ m' H' (x1.trans x2) sr Rep.str_⟩
    · rename_i c1 p1 S' ht
      split at e
      · rename_i t hp
        simp only [Option.some.injEq] at e
        subst e
        refine ⟨fb, m, ρ, S, _, rs1, ht, fun cls d m' H' x2 sr xr => ?_⟩
        obtain ⟨rfl, rfl, rfl⟩ := xr
        obtain ⟨s, es, hq⟩ := hx (c1, t) (pick_mem hp)
        have es : t = .str s := es
        subst es
        exact hq Q none H' (Gd _ m' H' (x1.trans x2) sr Rep.str_)
      · cases e
    · cases e
end
end Fw

namespace Fw
open PySem L2 PyProof.Rows

section
variable {g : GW} {E : EV}

theorem chn_read {o o' : CmpOp} {a b c : IE} {W : WX} {σ : L2.St} {H : Hp} {Q : VK} (h : tE g W (evE E (.chn o o' a b c)) σ H Q) : tChain (rCx g o) (rCx g o') (tE g W (evE E a)) (tE g W (evE E b)) (tE g W (evE E c)) σ H Q := by
  obtain ⟨fb, m, ρ, S, o'', rs, e, Gd⟩ := h
  simp only [evE] at e
  refine tE_bnd e rs Gd fun t S1 v m1 H1 e1 x1 rs1 r1 Gd1 => ?_
  refine tE_bnd e1 rs1 Gd1 fun u S2 w m2 H2 e2 x2 rs2 r2 Gd2 => ?_
  split at e2
  · rename_i hz
    refine ⟨fb, W, m2, σ, S2, _, _, true, rs2.sto, Rep.mono x2 _ r1, r2, hz, fun v3 m3 H3 x3 sr3 r3 => ⟨true, by simpa [Rep] using r3, iteT ?_⟩⟩
    refine tE_bnd e2 ⟨rs2.env.mono x3, sr3⟩ (Gd2.ext x3) fun u' S4 w' m4 H4 e4 x4 rs4 r4 Gd4 => ?_
    simp only [liftB] at e4
    split at e4
    · rename_i z4 hz4
      simp only [Option.some.injEq] at e4
      subst e4
      exact ⟨fb, W, m4, σ, S4, _, _, z4, rs4.sto, Rep.mono x4 _ (Rep.mono x3 _ r2), r4, hz4, Gd4⟩
    · cases e4
  · rename_i hz
    simp only [Option.some.injEq] at e2
    subst e2
    refine ⟨fb, W, m2, σ, S2, _, _, false, rs2.sto, Rep.mono x2 _ r1, r2, hz, fun v3 m3 H3 x3 sr3 r3 => ⟨false, by simpa [Rep] using r3, iteF ?_⟩⟩
    exact Gd2 _ m3 H3 x3 sr3 Rep.bl_
  · cases e2

structure Snd (g : GW) (E : EV) (ie : IE) : Prop where
  e : ∀ (G : Gm) (W : WX) (X : Cx), XOk G g E W X → ∀ e, chkE G ie e = true → PE X e (tE g W (evE E ie)) ∧ (noIf e = true → PT X e (tT g W (evE E ie)))
  a : ∀ (G : Gm) (W : WX) (X : Cx), XOk G g E W X → ∀ es, chkA G ie es = true → PA X es (tA g W (evE E ie))
  i : ∀ (G : Gm) (W : WX) (X : Cx), XOk G g E W X → ∀ tg e, isPair ie tg = true → chkI G ie e = true → PI X tg e (tI g W (evE E ie))

theorem Snd.o {ie : IE} (s : Snd g E ie) {G : Gm} {W : WX} {X : Cx} (xo : XOk G g E W X) {o : Option Expr} (h : chkO G ie o = true) : PO X o (tO g W (isNil ie) (evE E ie)) := by
  refine po_of (fun e => ?_) fun e he => ?_
  · subst e; simpa [chkO] using h
  · subst he
    simp only [chkO, Bool.and_eq_true, Bool.not_eq_true'] at h
    exact ⟨h.2, (s.e G W X xo e h.1).1⟩

/-- an expression alone -/
theorem snd_e {ie : IE} (h : ∀ (G : Gm) (W : WX) (X : Cx), XOk G g E W X → ∀ e, chkE G ie e = true → PE X e (tE g W (evE E ie)) ∧ (noIf e = true → PT X e (tT g W (evE E ie))))
    (ha : ∀ G es, chkA G ie es = false) (hi : ∀ G e, chkI G ie e = false) : Snd g E ie :=
  ⟨h, fun G W X _ es q => (by rw [ha] at q; cases q), fun G W X _ tg e _ q => (by rw [hi] at q; cases q)⟩
theorem snd_i {ie : IE} (h : ∀ (G : Gm) (W : WX) (X : Cx), XOk G g E W X → ∀ tg e, isPair ie tg = true → chkI G ie e = true → PI X tg e (tI g W (evE E ie)))
    (ha : ∀ G es, chkA G ie es = false) (he : ∀ G e, chkE G ie e = false) : Snd g E ie :=
  ⟨fun G W X _ e q => (by rw [he] at q; cases q), fun G W X _ es q => (by rw [ha] at q; cases q), h⟩

theorem vBin_eq {e x y : Expr} {p : Operator} (h : vBin e = some (x, p, y)) : ∃ q, e = .BinOp x p y q := by
  cases e <;> simp [vBin] at h
  obtain ⟨rfl, rfl, rfl⟩ := h; exact ⟨_, rfl⟩
theorem vCmp_eq {e x y : Expr} {p : CmpOp} (h : vCmp e = some (x, p, y)) : ∃ q, e = .Compare x [p] [y] q := by
  unfold vCmp at h
  split at h
  · simp only [Option.some.injEq, Prod.mk.injEq] at h
    obtain ⟨rfl, rfl, rfl⟩ := h; exact ⟨_, rfl⟩
  · cases h
theorem vChn_eq {e x y z : Expr} {p p' : CmpOp} (h : vChn e = some (x, p, y, p', z)) : ∃ q, e = .Compare x [p, p'] [y, z] q := by
  unfold vChn at h
  split at h
  · simp only [Option.some.injEq, Prod.mk.injEq] at h
    obtain ⟨rfl, rfl, rfl, rfl, rfl⟩ := h; exact ⟨_, rfl⟩
  · cases h
theorem vNeg_eq {e x : Expr} (h : vNeg e = some x) : ∃ q, e = .UnaryOp .USub x q := by
  unfold vNeg at h
  split at h
  · simp only [Option.some.injEq] at h; subst h; exact ⟨_, rfl⟩
  · cases h
theorem vNot_eq {e x : Expr} (h : vNot e = some x) : ∃ q, e = .UnaryOp .Not x q := by
  unfold vNot at h
  split at h
  · simp only [Option.some.injEq] at h; subst h; exact ⟨_, rfl⟩
  · cases h
theorem vIfE_eq {e z x y : Expr} (h : vIfE e = some (z, x, y)) : ∃ q, e = .IfExp z x y q := by
  cases e <;> simp [vIfE] at h
  obtain ⟨rfl, rfl, rfl⟩ := h; exact ⟨_, rfl⟩
theorem vLc_eq {e x t it : Expr} {cs : List Expr} {scope : Scope} (h : vLc e = some (x, t, it, cs, scope)) : ∃ q, e = .ListComp x [⟨t, it, cs, 0⟩] scope q := by
  unfold vLc at h
  split at h
  · simp only [Option.some.injEq, Prod.mk.injEq] at h
    obtain ⟨rfl, rfl, rfl, rfl, rfl⟩ := h; exact ⟨_, rfl⟩
  · cases h
theorem isYes_eq {a : IE} (h : isYes a = true) : a = .lit (.bl true) := by
  unfold isYes at h
  split at h
  · rfl
  · cases h
theorem yes_read {W : WX} {σ : L2.St} {H : Hp} {Q : Bool → Hp → Prop} (h : tT g W (evE E (.lit (.bl true))) σ H Q) : tYes σ H Q := by
  obtain ⟨fb, m, ρ, S, o, rs, e, Gd⟩ := h
  simp only [evE, Option.some.injEq] at e
  subst e
  obtain ⟨b, eb, k⟩ := Gd
  simp only [truthy, Option.some.injEq] at eb
  subst eb
  exact k m H (Ext.refl _ _) rs.sto

theorem noset_fold {it : Expr} {env : Env} (h : noSet it = true) : ∀ x, foldedSetIterable it env x = pure x := by
  cases it <;> first | (intro _; rfl) | cases h

theorem own_map (N : List Str) (own : List Nat) : (own.map fun i => ((N.getD i "", i) : Str × Nat)).map (·.2) = own := by
  rw [List.map_map]
  conv => rhs; rw [← List.map_id own]
  rfl

/-- the parts of a comprehension, as the rules want them -/
theorem lc_parts {G : Gm} {W : WX} {X : Cx} (xo : XOk G g E W X) {bx : Bool} {own : List Nat} {elt src cnd : IE} {tg : Tg} {e : Expr} (se : Snd g E elt) (ss : Snd g E src) (sc : Snd g E cnd) (h : chkE G (.lc bx own elt tg src cnd) e = true) :
    ∃ (x t it : Expr) (cs : List Expr) (scope : Scope) (q : Pos) (wi : TI) (tt : TT) (ow : List (Str × Nat)), e = .ListComp x [⟨t, it, cs, 0⟩] scope q ∧ ow.map (·.2) = own ∧ PI X t it wi ∧ BlkOk X.N X.env.scope scope ow ∧
      (∀ (s : Shared) (H : Hp) (C : Addr) (cl : List (Str × Addr)) (fp : List Addr), PG (X.blk s H scope (compEnvC scope cl C X.env) fp) t (tG g tg)) ∧ (∀ (s : Shared) (H : Hp) (C : Addr) (cl : List (Str × Addr)) (fp : List Addr), PTs (X.blk s H scope (compEnvC scope cl C X.env) fp) cs tt) ∧
      (∀ (s : Shared) (H : Hp) (C : Addr) (cl : List (Str × Addr)) (fp : List Addr), PE (X.blk s H scope (compEnvC scope cl C X.env) fp) x (tE g (fun _ _ _ _ => False) (evE E elt))) ∧ (∀ y, foldedSetIterable it X.env y = pure y) ∧
      (∀ σ H Q, tE g W (evE E (.lc bx own elt tg src cnd)) σ H Q → tLc wi (tG g tg) tt (tE g (fun _ _ _ _ => False) (evE E elt)) own σ H Q) := by
  simp only [chkE] at h
  split at h
  · rename_i x t it cs scope hv
    obtain ⟨q, rfl⟩ := vLc_eq hv
    simp only [Bool.and_eq_true] at h
    obtain ⟨h1, h2, h3, ⟨h4, h5, h6⟩, h7, h8⟩ := h
    have hown : ∀ i ∈ slots tg, i ∈ own := by simpa using h2
    have blk := fun s H C cl fp => blk_ok xo s H scope C cl fp
    have hpg : ∀ (s : Shared) (H : Hp) (C : Addr) (cl : List (Str × Addr)) (fp : List Addr), PG (X.blk s H scope (compEnvC scope cl C X.env) fp) t (tG g tg) := fun s H C cl fp =>
      (pg_sound (blk s H C cl fp).N (blk s H C cl fp).nd (blk s H C cl fp).sc (blk s H C cl fp).calm (blk s H C cl fp).K (blk s H C cl fp).fn tg).1 t h3
    have hb : BlkOk X.N X.env.scope scope (own.map fun i => (G.N.getD i "", i)) := by rw [xo.N, xo.sc]; exact blkOk_by h1
    refine ⟨x, t, it, cs, scope, q, tI g W (evE E src), ?_⟩
    have hpe := fun s H C cl fp => (se.e _ _ _ (blk s H C cl fp) x h7).1
    have hpi := ss.i G W X xo t it h4 h5
    cases cs with
    | nil =>
      have := isYes_eq h8
      subst this
      exact ⟨tYes, _, rfl, own_map _ _, hpi, hb, hpg, fun _ _ _ _ _ => pts_nil, hpe, noset_fold h6, fun σ H Q q => lc_read hown (fun _ _ _ z => z) (fun _ _ _ z => yes_read z) q⟩
    | cons c r =>
      cases r with
      | nil =>
        simp only [Bool.and_eq_true] at h8
        exact ⟨tT g (fun _ _ _ _ => False) (evE E cnd), _, rfl, own_map _ _, hpi, hb, hpg, fun s H C cl fp => pts_one ((sc.e _ _ _ (blk s H C cl fp) c h8.1).2 h8.2), hpe, noset_fold h6, fun σ H Q q => lc_read hown (fun _ _ _ z => z) (fun _ _ _ z => z) q⟩
      | cons c2 r2 => cases h8
  · cases h

theorem sound : ∀ ie : IE, Snd g E ie := by
  intro ie
  induction ie with
  | lit v =>
    refine snd_e (fun G W X xo e h => ?_) (fun _ _ => by simp [chkA]) fun _ _ => by simp [chkI]
    have h' : lits G v e = true := by simpa [chkE] using h
    have pe : PE X e (tE g W (evE E (.lit v))) := pe_lit xo h'
    refine ⟨pe, fun _ => pt_tr xo pe ?_⟩
    have : (∃ c k p, e = .Constant c k p) ∨ ∃ x p, e = .Name x p := by
      cases v <;> simp only [lits] at h' <;> first | (cases h'; done) | skip
      all_goals
        split at h'
        · rename_i q
          first
            | (obtain ⟨k, p, rfl⟩ := vConst_eq q; exact .inl ⟨_, _, _, rfl⟩)
            | (obtain ⟨p, rfl⟩ := vName_eq q; exact .inr ⟨_, _, rfl⟩)
        · cases h'
    rcases this with ⟨c, k, p, rfl⟩ | ⟨x, p, rfl⟩ <;> (intro _; rfl)
  | var i =>
    refine snd_e (fun G W X xo e h => ?_) (fun _ _ => by simp [chkA]) fun _ _ => by simp [chkI]
    have pe := pe_v xo h
    refine ⟨pe, fun _ => pt_tr xo pe ?_⟩
    simp only [chkE] at h
    split at h
    · rename_i x q
      obtain ⟨p, rfl⟩ := vName_eq q
      intro _; rfl
    · cases h
  | cst c =>
    refine snd_e (fun G W X xo e h => ?_) (fun _ _ => by simp [chkA]) fun _ _ => by simp [chkI]
    have pe := pe_k xo h
    refine ⟨pe, fun _ => pt_tr xo pe ?_⟩
    simp only [chkE] at h
    split at h
    · rename_i x q
      obtain ⟨p, rfl⟩ := vName_eq q
      intro _; rfl
    · cases h
  | nil =>
    refine ⟨fun G W X xo e h => (by simp [chkE] at h), fun G W X xo es h => ?_, fun G W X xo tg e _ h => (by simp [chkI] at h)⟩
    simp only [chkA, List.isEmpty_iff] at h
    subst h
    exact pa_n
  | cons a b iha ihb =>
    refine ⟨fun G W X xo e h => (by simp [chkE] at h), fun G W X xo es h => ?_, fun G W X xo tg e _ h => (by simp [chkI] at h)⟩
    cases es with
    | nil => simp [chkA] at h
    | cons e r =>
      simp only [chkA, Bool.and_eq_true] at h
      exact pa_c (iha.e G W X xo e h.1).1 (ihb.a G W X xo r h.2.2) h.2.1
  | tup es ih =>
    refine snd_e (fun G W X xo e h => ?_) (fun _ _ => by simp [chkA]) fun _ _ => by simp [chkI]
    simp only [chkE] at h
    split at h
    · rename_i xs q
      obtain ⟨k, p, rfl⟩ := vTup_eq q
      have pe := pe_tu (k := k) (p := p) (ih.a G W X xo xs h)
      exact ⟨pe, fun _ => pt_tr xo pe fun _ => rfl⟩
    · cases h
  | lst bx es ih =>
    refine snd_e (fun G W X xo e h => ?_) (fun _ _ => by simp [chkA]) fun _ _ => by simp [chkI]
    simp only [chkE] at h
    split at h
    · rename_i xs q
      obtain ⟨p, rfl⟩ := vLst_eq q
      have pe := pe_ls (bx := bx) (p := p) (ih.a G W X xo xs h)
      exact ⟨pe, fun _ => pt_tr xo pe fun _ => rfl⟩
    · cases h
  | op bx o a b iha ihb =>
    refine snd_e (fun G W X xo e h => ?_) (fun _ _ => by simp [chkA]) fun _ _ => by simp [chkI]
    simp only [chkE] at h
    split at h
    · rename_i x p y hv
      obtain ⟨q, rfl⟩ := vBin_eq hv
      simp only [Bool.and_eq_true, decide_eq_true_eq] at h
      obtain ⟨rfl, h1, h2⟩ := h
      have pe := pe_o (bx := bx) (o := o) (p := q) xo (iha.e G W X xo x h1).1 (ihb.e G W X xo y h2).1
      exact ⟨pe, fun _ => pt_tr xo pe fun _ => rfl⟩
    · cases h
  | cmp o a b iha ihb =>
    refine snd_e (fun G W X xo e h => ?_) (fun _ _ => by simp [chkA]) fun _ _ => by simp [chkI]
    simp only [chkE] at h
    split at h
    · rename_i x p y hv
      obtain ⟨q, rfl⟩ := vCmp_eq hv
      simp only [Bool.and_eq_true, decide_eq_true_eq] at h
      obtain ⟨rfl, h1, h2, h3⟩ := h
      exact ⟨pe_cm xo (iha.e G W X xo x h1).1 (ihb.e G W X xo y h2).1 h3, fun _ => pt_cm xo (iha.e G W X xo x h1).1 (ihb.e G W X xo y h2).1 h3⟩
    · cases h
  | chn o o' a b c iha ihb ihc =>
    refine snd_e (fun G W X xo e h => ?_) (fun _ _ => by simp [chkA]) fun _ _ => by simp [chkI]
    simp only [chkE] at h
    split at h
    · rename_i x p y p' z hv
      obtain ⟨q, rfl⟩ := vChn_eq hv
      simp only [Bool.and_eq_true, decide_eq_true_eq] at h
      obtain ⟨rfl, rfl, h1, h2, h3, h4, h5⟩ := h
      have pa := (iha.e G W X xo x h1).1
      have pb := (ihb.e G W X xo y h2).1
      have pc := (ihc.e G W X xo z h3).1
      refine ⟨pe_ch xo pa pb pc h4 h5, fun _ => ?_⟩
      exact (pt_chain (op_cx xo.K xo.un o) (op_cx xo.K xo.un o') pa pb pc (by show lastMarks [o'] [z] = false; exact noset_mark h5)).of fun σ H Q h => chn_read (tT_bool h chn_bl)
    · cases h
  | neg a ih =>
    refine snd_e (fun G W X xo e h => ?_) (fun _ _ => by simp [chkA]) fun _ _ => by simp [chkI]
    simp only [chkE] at h
    split at h
    · rename_i x hv
      obtain ⟨q, rfl⟩ := vNeg_eq hv
      have pe := pe_ng (p := q) (ih.e G W X xo x h).1
      exact ⟨pe, fun _ => pt_tr xo pe fun _ => rfl⟩
    · cases h
  | not a ih =>
    refine snd_e (fun G W X xo e h => ?_) (fun _ _ => by simp [chkA]) fun _ _ => by simp [chkI]
    simp only [chkE] at h
    split at h
    · rename_i x hv
      obtain ⟨q, rfl⟩ := vNot_eq hv
      simp only [Bool.and_eq_true] at h
      obtain ⟨p1, p2⟩ := ih.e G W X xo x h.1
      exact ⟨pe_nt xo p1, fun _ => pt_nt (p2 h.2)⟩
    · cases h
  | and a b iha ihb =>
    refine snd_e (fun G W X xo e h => ?_) (fun _ _ => by simp [chkA]) fun _ _ => by simp [chkI]
    simp only [chkE] at h
    split at h
    · rename_i x y hv
      simp only [Bool.and_eq_true] at h
      obtain ⟨h1, h2, h3, h4⟩ := h
      obtain ⟨p1, p2⟩ := iha.e G W X xo x h1
      obtain ⟨q1, q2⟩ := ihb.e G W X xo y h2
      exact ⟨pe_an xo hv p1 q1, fun _ => pt_an hv (p2 h3) (q2 h4)⟩
    · cases h
  | or a b iha ihb =>
    refine snd_e (fun G W X xo e h => ?_) (fun _ _ => by simp [chkA]) fun _ _ => by simp [chkI]
    simp only [chkE] at h
    split at h
    · rename_i x y hv
      simp only [Bool.and_eq_true] at h
      obtain ⟨h1, h2, h3, h4⟩ := h
      obtain ⟨p1, p2⟩ := iha.e G W X xo x h1
      obtain ⟨q1, q2⟩ := ihb.e G W X xo y h2
      exact ⟨pe_orr xo hv p1 q1, fun _ => pt_orr hv (p2 h3) (q2 h4)⟩
    · cases h
  | ite c a b ihc iha ihb =>
    refine snd_e (fun G W X xo e h => ?_) (fun _ _ => by simp [chkA]) fun _ _ => by simp [chkI]
    simp only [chkE] at h
    split at h
    · rename_i z x y hv
      obtain ⟨q, rfl⟩ := vIfE_eq hv
      simp only [Bool.and_eq_true] at h
      obtain ⟨h1, h2, h3, h4⟩ := h
      exact ⟨pe_if ((ihc.e G W X xo z h1).2 h4) (iha.e G W X xo x h2).1 (ihb.e G W X xo y h3).1, fun z => by cases z⟩
    · cases h
  | ix a b iha ihb =>
    refine snd_e (fun G W X xo e h => ?_) (fun _ _ => by simp [chkA]) fun _ _ => by simp [chkI]
    simp only [chkE] at h
    split at h
    · rename_i x y hv
      simp only [Bool.and_eq_true] at h
      have pe := pe_i xo hv (iha.e G W X xo x h.1).1 (ihb.e G W X xo y h.2).1
      obtain ⟨p, rfl, _⟩ := vIx_eq hv
      exact ⟨pe, fun _ => pt_tr xo pe fun _ => rfl⟩
    · cases h
  | sl bx a lo hi iha ihl ihh =>
    refine snd_e (fun G W X xo e h => ?_) (fun _ _ => by simp [chkA]) fun _ _ => by simp [chkI]
    simp only [chkE] at h
    split at h
    · rename_i x l hh hv
      simp only [Bool.and_eq_true] at h
      have pe := pe_s (bx := bx) xo hv (iha.e G W X xo x h.1).1 (ihl.o xo h.2.1) (ihh.o xo h.2.2)
      obtain ⟨p, p2, rfl⟩ := vSl_eq hv
      exact ⟨pe, fun _ => pt_tr xo pe fun _ => rfl⟩
    · cases h
  | rev bx a ih =>
    refine snd_e (fun G W X xo e h => ?_) (fun _ _ => by simp [chkA]) fun _ _ => by simp [chkI]
    simp only [chkE] at h
    split at h
    · rename_i x hv
      have pe := pe_r (bx := bx) xo hv (ih.e G W X xo x h).1
      obtain ⟨k, p1, p2, p3, p, rfl⟩ := vRev_eq hv
      exact ⟨pe, fun _ => pt_tr xo pe fun _ => rfl⟩
    · cases h
  | call f es ih =>
    refine snd_e (fun G W X xo e h => ?_) (fun _ _ => by simp [chkA]) fun _ _ => by simp [chkI]
    simp only [chkE] at h
    split at h
    · rename_i x r hv
      simp only [Bool.and_eq_true] at h
      have pe := pe_ca xo hv (isNm_eq h.1) h.2.1 h.2.2 (ih.a G W X xo r h.2.2)
      obtain ⟨p, q, a, es', rfl, _⟩ := vCall_eq hv
      exact ⟨pe, fun _ => pt_tr xo pe fun _ => rfl⟩
    · cases h
  | callL f es ih =>
    refine snd_e (fun G W X xo e h => ?_) (fun _ _ => by simp [chkA]) fun _ _ => by simp [chkI]
    simp only [chkE] at h
    split at h
    · rename_i x r hv
      simp only [Bool.and_eq_true] at h
      have pe := pe_cal xo hv (isNm_eq h.1) h.2.1 h.2.2 (ih.a G W X xo r h.2.2)
      obtain ⟨p, q, a, es', rfl, _⟩ := vCall_eq hv
      exact ⟨pe, fun _ => pt_tr xo pe fun _ => rfl⟩
    · cases h
  | callv i es ih =>
    refine snd_e (fun G W X xo e h => ?_) (fun _ _ => by simp [chkA]) fun _ _ => by simp [chkI]
    simp only [chkE] at h
    split at h
    · rename_i x r hv
      simp only [Bool.and_eq_true, Bool.not_eq_true', decide_eq_true_eq] at h
      have pe : PE X e (tE g W (evE E (.callv i es))) := pe_cv xo hv (xo.callv h.1) h.2.1 h.2.2.1 h.2.2.2.1 h.2.2.2.2 (ih.a G W X xo r h.2.2.2.2)
      obtain ⟨p, q, a, es', rfl, _⟩ := vCall_eq hv
      exact ⟨pe, fun _ => pt_tr xo pe fun _ => rfl⟩
    · cases h
  | callvL i es ih =>
    refine snd_e (fun G W X xo e h => ?_) (fun _ _ => by simp [chkA]) fun _ _ => by simp [chkI]
    simp only [chkE] at h
    split at h
    · rename_i x r hv
      simp only [Bool.and_eq_true, Bool.not_eq_true', decide_eq_true_eq] at h
      have pe : PE X e (tE g W (evE E (.callvL i es))) := pe_cv xo hv (xo.callvL h.1) h.2.1 h.2.2.1 h.2.2.2.1 h.2.2.2.2 (ih.a G W X xo r h.2.2.2.2)
      obtain ⟨p, q, a, es', rfl, _⟩ := vCall_eq hv
      exact ⟨pe, fun _ => pt_tr xo pe fun _ => rfl⟩
    · cases h
  | blt bx b es ih =>
    refine snd_e (fun G W X xo e h => ?_) (fun _ _ => by simp [chkA]) fun _ _ => by simp [chkI]
    simp only [chkE] at h
    split at h
    · rename_i x r hv
      simp only [Bool.and_eq_true] at h
      have pe := pe_bl_ (bx := bx) xo hv (by simpa using h.1) h.2.1 h.2.2 (ih.a G W X xo r h.2.2)
      obtain ⟨p, q, a, es', rfl, _⟩ := vCall_eq hv
      exact ⟨pe, fun _ => pt_tr xo pe fun _ => rfl⟩
    · cases h
  | isi a ty ih =>
    refine snd_e (fun G W X xo e h => ?_) (fun _ _ => by simp [chkA]) fun _ _ => by simp [chkI]
    simp only [chkE] at h
    split at h
    · rename_i x y z hv
      split at h
      · rename_i w hw
        simp only [Bool.and_eq_true, beq_iff_eq] at h
        obtain ⟨h1, h2, h3, h4, h5, h6, h7⟩ := h
        have pe := pe_is xo hv hw h1 h2 h3 h4 (by simpa using h5) (ih.e G W X xo y h6).1 h7
        obtain ⟨p, q, a, es', rfl, _⟩ := vCall_eq hv
        exact ⟨pe, fun _ => pt_tr xo pe fun _ => rfl⟩
      · cases h
    · cases h
  | mt0 m o ih =>
    refine snd_e (fun G W X xo e h => ?_) (fun _ _ => by simp [chkA]) fun _ _ => by simp [chkI]
    simp only [chkE] at h
    split at h
    · rename_i x n hv
      simp only [Bool.and_eq_true, beq_iff_eq] at h
      have pe := pe_m0_ xo hv h.1 h.2.1 h.2.2.1 (ih.e G W X xo x h.2.2.2).1
      obtain ⟨p, q, rfl, _⟩ := vMth_eq hv
      exact ⟨pe, fun _ => pt_tr xo pe fun _ => rfl⟩
    · cases h
  | mt1 m o a iho iha =>
    refine snd_e (fun G W X xo e h => ?_) (fun _ _ => by simp [chkA]) fun _ _ => by simp [chkI]
    simp only [chkE] at h
    split at h
    · rename_i x n y hv
      simp only [Bool.and_eq_true, beq_iff_eq, Bool.not_eq_true'] at h
      obtain ⟨h1, h2, h3, h4, h5, h6⟩ := h
      have pe := pe_m1_ xo hv h1 h2 h3 h4 (iho.e G W X xo x h5).1 (iha.e G W X xo y h6).1
      obtain ⟨p, q, rfl, _⟩ := vMth_eq hv
      exact ⟨pe, fun _ => pt_tr xo pe fun _ => rfl⟩
    · cases h
  | lc bx own elt tg src cnd ihe ihs ihc =>
    refine snd_e (fun G W X xo e h => ?_) (fun _ _ => by simp [chkA]) fun _ _ => by simp [chkI]
    obtain ⟨x, t, it, cs, scope, q, wi, tt, ow, rfl, ho, h1, h2, h3, h4, h5, h6, h7⟩ := lc_parts xo ihe ihs ihc h
    have pe : PE X (.ListComp x [⟨t, it, cs, 0⟩] scope q) (tE g W (evE E (.lc bx own elt tg src cnd))) :=
      (pe_lc xo.calm (by rw [xo.N]; exact xo.nd) h1 h2 h3 h4 h5 h6).of fun σ H Q z => by rw [ho]; exact h7 σ H Q z
    exact ⟨pe, fun _ => pt_tr xo pe fun _ => rfl⟩
  | sq a ih =>
    refine snd_i (fun G W X xo tg e hp h => ?_) (fun _ _ => by simp [chkA]) fun _ _ => by simp [chkE]
    simp only [chkI, Bool.and_eq_true] at h
    exact pi_sq xo (ih.e G W X xo e h.1).1
  | rg1 a ih =>
    refine snd_i (fun G W X xo tg e hp h => ?_) (fun _ _ => by simp [chkA]) fun _ _ => by simp [chkE]
    simp only [chkI] at h
    split at h
    · rename_i x y hv
      simp only [Bool.and_eq_true, beq_iff_eq] at h
      exact pi_r1 xo hv h.1 h.2.1 (ih.e G W X xo y h.2.2.1).1 h.2.2.2
    · cases h
  | rg2 a b iha ihb =>
    refine snd_i (fun G W X xo tg e hp h => ?_) (fun _ _ => by simp [chkA]) fun _ _ => by simp [chkE]
    simp only [chkI] at h
    split at h
    · rename_i x y z hv
      simp only [Bool.and_eq_true, beq_iff_eq] at h
      obtain ⟨h1, h2, h3, h4, h5, h6⟩ := h
      exact pi_r2 xo hv h1 h2 (iha.e G W X xo y h3).1 (ihb.e G W X xo z h4).1 h5 h6
    · cases h
  | zp a b iha ihb =>
    refine snd_i (fun G W X xo tg e hp h => ?_) (fun _ _ => by simp [chkA]) fun _ _ => by simp [chkE]
    simp only [isPair, Option.isSome_iff_exists] at hp
    obtain ⟨ts, ht⟩ := hp
    simp only [chkI] at h
    split at h
    · rename_i x y z hv
      simp only [Bool.and_eq_true, beq_iff_eq] at h
      obtain ⟨h1, h2, h3, h4, h5, h6⟩ := h
      exact pi_z xo hv h1 h2 ht (iha.e G W X xo y h3).1 (ihb.e G W X xo z h4).1 h5 h6
    · cases h
  | en a ih =>
    refine snd_i (fun G W X xo tg e hp h => ?_) (fun _ _ => by simp [chkA]) fun _ _ => by simp [chkE]
    simp only [isPair, Option.isSome_iff_exists] at hp
    obtain ⟨ts, ht⟩ := hp
    simp only [chkI] at h
    split at h
    · rename_i x y hv
      simp only [Bool.and_eq_true, beq_iff_eq] at h
      exact pi_e xo hv h.1 h.2.1 ht (ih.e G W X xo y h.2.2.1).1 h.2.2.2
    · cases h
  | lrg bx a b iha ihb =>
    refine snd_e (fun G W X xo e h => ?_) (fun _ _ => by simp [chkA]) fun _ _ => by simp [chkI]
    simp only [chkE] at h
    split at h
    · rename_i x y hv
      split at h
      · rename_i z u v hv2
        simp only [Bool.and_eq_true, beq_iff_eq] at h
        obtain ⟨h1, h2, h3, h4, h5, h6, h7, h8, h9⟩ := h
        have pe := pe_lrg (bx := bx) xo hv hv2 h1 h2 h3 h4 h5 (iha.e G W X xo u h6).1 (ihb.e G W X xo v h7).1 h8 h9
        obtain ⟨p, q, a, es', rfl, _⟩ := vCall_eq hv
        exact ⟨pe, fun _ => pt_tr xo pe fun _ => rfl⟩
      · cases h
    · cases h
  | lam f b ih =>
    refine snd_e (fun G W X xo e h => ?_) (fun _ _ => by simp [chkA]) fun _ _ => by simp [chkI]
    simp only [chkE] at h
    split at h
    · rename_i x ps body sc hv
      simp only [Bool.and_eq_true] at h
      have pe := pe_lm xo hv (isNm_eq h.1) h.2.1 h.2.2.1 h.2.2.2.1 fun W' X' xo' => (ih.e _ W' X' xo' body h.2.2.2.2).1
      obtain ⟨p, lp, q, rfl⟩ := vLam_eq hv
      exact ⟨pe, fun _ => pt_tr xo pe fun _ => rfl⟩
    · cases h
end
end Fw

namespace Fw
open PySem L2 PyProof.Rows

def GoodS (g : GW) (W : WX) (m : List Addr) (H : Hp) (D : Ends) : OutS → Prop
  | .nx ρ S => ∀ σ m' H', Ext m H m' H' → RS g m' σ H' ρ S → D.nx σ H'
  | .bk ρ S => ∀ σ m' H', Ext m H m' H' → RS g m' σ H' ρ S → D.bk σ H'
  | .ct ρ S => ∀ σ m' H', Ext m H m' H' → RS g m' σ H' ρ S → D.ct σ H'
  | .rt t S => ∀ v m' H', Ext m H m' H' → SRep g m' H' S → Rep g m' H' t v → D.rt v H'
  | .ex c p ρ S => ∀ cls d σ m' H', Ext m H m' H' → RS g m' σ H' ρ S → XRep g H' c p cls d → W cls d σ H'
theorem GoodS.ext {g : GW} {W : WX} {m m' : List Addr} {H H' : Hp} {D : Ends} {o : OutS} (h : GoodS g W m H D o) (x : Ext m H m' H') : GoodS g W m' H' D o := by
  cases o with
  | nx ρ S => exact fun σ m2 H2 x2 => h σ m2 H2 (x.trans x2)
  | bk ρ S => exact fun σ m2 H2 x2 => h σ m2 H2 (x.trans x2)
  | ct ρ S => exact fun σ m2 H2 x2 => h σ m2 H2 (x.trans x2)
  | rt t S => exact fun v m2 H2 x2 => h v m2 H2 (x.trans x2)
  | ex c p ρ S => exact fun cls d σ m2 H2 x2 => h cls d σ m2 H2 (x.trans x2)
def tS (g : GW) (W : WX) (f : Rho → Sto → ResS) : TS := fun D σ H => ∃ fb m ρ S o, RS (g.w fb) m σ H ρ S ∧ f ρ S = some o ∧ GoodS (g.w fb) W m H D o

structure SOk (G : Gm) (g : GW) (E : EV) (W : WX) (X : Cx) : Prop where
  xo : XOk G g E W X
  po : PassesOwn (model X.prog X.w) X.A X.env X.xe
  kd : X.env.scope.kind = .function
  exc : ∀ c x, G.ename c = some x → ∃ (B newId initId : String) (bmB : List Value), ExcBaseFacts B newId initId bmB ∧ PySem.W.excIn X.K (g.ea c) bmB newId = true ∧ X.mg x = some (.ref (g.ea c)) ∧ PySem.W.keepIn X.K (.ref (g.ea c)) = true ∧ Raises X (.ref (g.ea c))

section
variable {g : GW} {E : EV} {G : Gm} {W : WX} {X : Cx}

theorem tS_bnd {fb : List Addr} {f : Rho → Sto → Res} {k : T → Sto → ResS} {m : List Addr} {σ : L2.St} {H : Hp} {ρ : Rho} {S : Sto} {o : OutS} {D : Ends} {R : VK}
    (h : bndS (f ρ S) ρ k = some o) (rs : RS (g.w fb) m σ H ρ S) (Gd : GoodS (g.w fb) W m H D o)
    (hk : ∀ t S1 v m1 H1, k t S1 = some o → Ext m H m1 H1 → RS (g.w fb) m1 σ H1 ρ S1 → Rep (g.w fb) m1 H1 t v → GoodS (g.w fb) W m1 H1 D o → R v H1) : tE g W f σ H R := by
  cases e : f ρ S with
  | none => rw [e] at h; cases h
  | some r =>
    rw [e] at h
    refine ⟨fb, m, ρ, S, r, rs, e, ?_⟩
    cases r with
    | ok t S1 => exact fun v m1 H1 x sr rp => hk t S1 v m1 H1 h x ⟨rs.env.mono x, sr⟩ rp (Gd.ext x)
    | ex c p S1 =>
      have : o = .ex c p ρ S1 := (Option.some.inj h).symm
      subst this
      exact fun cls d m1 H1 x sr xr => Gd cls d σ m1 H1 x ⟨rs.env.mono x, sr⟩ xr
theorem tS_tst {fb : List Addr} {f : Rho → Sto → Res} {k : T → Sto → ResS} {m : List Addr} {σ : L2.St} {H : Hp} {ρ : Rho} {S : Sto} {o : OutS} {D : Ends} {R : Bool → Hp → Prop}
    (h : bndS (f ρ S) ρ k = some o) (rs : RS (g.w fb) m σ H ρ S) (Gd : GoodS (g.w fb) W m H D o)
    (hk : ∀ t S1, k t S1 = some o → ∃ b, truthy S1 t = some b ∧ ∀ m1 H1, Ext m H m1 H1 → RS (g.w fb) m1 σ H1 ρ S1 → GoodS (g.w fb) W m1 H1 D o → R b H1) : tT g W f σ H R := by
  cases e : f ρ S with
  | none => rw [e] at h; cases h
  | some r =>
    rw [e] at h
    refine ⟨fb, m, ρ, S, r, rs, e, ?_⟩
    cases r with
    | ok t S1 =>
      obtain ⟨b, hb, q⟩ := hk t S1 h
      exact ⟨b, hb, fun m1 H1 x sr => q m1 H1 x ⟨rs.env.mono x, sr⟩ (Gd.ext x)⟩
    | ex c p S1 =>
      have : o = .ex c p ρ S1 := (Option.some.inj h).symm
      subst this
      exact fun cls d m1 H1 x sr xr => Gd cls d σ m1 H1 x ⟨rs.env.mono x, sr⟩ xr
theorem tS_args {fb : List Addr} {f : Rho → Sto → Res} {k : T → Sto → ResS} {m : List Addr} {σ : L2.St} {H : Hp} {ρ : Rho} {S : Sto} {o : OutS} {D : Ends} {R : List V → Hp → Prop}
    (h : bndS (f ρ S) ρ k = some o) (rs : RS (g.w fb) m σ H ρ S) (Gd : GoodS (g.w fb) W m H D o)
    (hk : ∀ t S1, k t S1 = some o → ∃ l, t = .tup l ∧ ∀ vs m1 H1, Ext m H m1 H1 → RS (g.w fb) m1 σ H1 ρ S1 → RepL (g.w fb) m1 H1 l vs → GoodS (g.w fb) W m1 H1 D o → R vs H1) : tA g W f σ H R := by
  cases e : f ρ S with
  | none => rw [e] at h; cases h
  | some r =>
    rw [e] at h
    refine ⟨fb, m, ρ, S, r, rs, e, ?_⟩
    cases r with
    | ok t S1 =>
      obtain ⟨l, rfl, q⟩ := hk t S1 h
      exact fun vs m1 H1 x sr rp => q vs m1 H1 x ⟨rs.env.mono x, sr⟩ rp (Gd.ext x)
    | ex c p S1 =>
      have : o = .ex c p ρ S1 := (Option.some.inj h).symm
      subst this
      exact fun cls d m1 H1 x sr xr => Gd cls d σ m1 H1 x ⟨rs.env.mono x, sr⟩ xr

theorem nocomp_sw {v : Expr} {t : Option Expr} {l : Nat} {env : Env} (h : noComp v = true) : swapsWith v t l env = pure false := by
  cases v <;> first | rfl | cases h
theorem swf_sole {G : Gm} {x : Str} {px : Pos} {v : Expr} {l : Nat} {env : Env} (hsc : env.scope = G.sc) (h : swF G x px.line v = true) : swapsWithSole [.Name x px] v l env = pure false := by
  show swapsWith v (some (.Name x px)) l env = pure false
  cases v <;> try (cases h; done)
  rename_i elt gs scope pos
  unfold swapsWith
  simp only [swF, isKind, Bool.or_eq_true, Bool.not_eq_true', decide_eq_false_iff_not] at h
  rcases h with h | h
  · have : (env.kindOf x == some .local) = false := by
      unfold Env.kindOf
      rw [hsc]
      cases q : (G.sc.names.lookup x == some NameKind.local) with
      | false => rfl
      | true => exact absurd (by simpa using q) h
    simp [this]
  · have e : (Expr.ListComp elt gs scope pos).pos = pos := rfl
    simp [h, e]
theorem nocomp_sole {t v : Expr} {l : Nat} {env : Env} (h : noComp v = true) : swapsWithSole [t] v l env = pure false := nocomp_sw h
theorem ite5 (c1 c2 c3 c4 c5 : Bool) (n : List Str) (u : Sem Unit) (r : Option (List Str)) (h : (if c1 = true then some none else if c2 = true then some none else if c3 = true then some none else if c4 = true then some none else if c5 = true then none else some (some n)) = some r) :
    (if (c1 || (ScopeKind.function != ScopeKind.function)) = true then (pure none : Sem (Option (List Str))) else if c2 = true then pure none else if c3 = true then pure none else if c4 = true then pure none else if c5 = true then (do u; pure (some n)) else pure (some n)) = pure r := by
  have hf : (ScopeKind.function != ScopeKind.function) = false := rfl
  rw [hf]
  cases c1 <;> cases c2 <;> cases c3 <;> cases c4 <;> cases c5 <;> simp at h ⊢ <;> rw [h]
theorem swN_ok {env : Env} {ts vs : List Expr} {k k2 : Nat} {p p2 : Pos} {r : Option (List Str)} (hk : env.scope.kind = .function) (h : swN env.scope ts vs = some r) : swappedStores [.Tuple ts k p] (.Tuple vs k2 p2) env = pure r := by
  have hb : env.blockKind = .function := by unfold Env.blockKind; rw [hk]; rfl
  unfold swappedStores
  simp only [hb]
  exact ite5 _ _ _ _ _ _ _ r h
theorem notup_sw {t v : Expr} {env : Env} (h : vTup v = none) : swappedStores [t] v env = pure none := by
  cases v <;> first | rfl | (simp [vTup] at h; done) | (cases t <;> rfl)
theorem asOne_ok {ts : List Expr} {v : Expr} {k : Nat} {p : Pos} (sc : X.env.scope = G.sc) (kd : X.env.scope.kind = .function) (h : asOne G ts v = true) : swappedStores [.Tuple ts k p] v X.env = pure none := by
  unfold asOne at h
  cases e : vTup v with
  | none => exact notup_sw e
  | some vs =>
    rw [e] at h
    obtain ⟨k2, p2, rfl⟩ := vTup_eq e
    simp only [decide_eq_true_eq] at h
    exact swN_ok kd (by rw [sc]; exact h)

theorem vS_asg {s : Stmt} {t v : Expr} {l : Nat} (h : vS s = some (.asg t v l)) : ∃ p, s = .Assign [t] v p ∧ l = t.pos.line := by
  unfold vS at h
  split at h <;> simp only [Option.some.injEq, reduceCtorEq, VS.asg.injEq] at h <;> try (cases h; done)
  obtain ⟨rfl, rfl, rfl⟩ := h
  exact ⟨_, rfl, rfl⟩

/-! ### loops -/
theorem forL_cons {gt : T → Rho → Sto → ResS} {x : T} {xs : List T} {ρ : Rho} {S : Sto} {r : OutS} (h : forL gt (x :: xs) ρ S = some r) :
    ∃ q, gt x ρ S = some q ∧ (match q with
      | .nx ρ' S' => forL gt xs ρ' S' = some r
      | .ct ρ' S' => forL gt xs ρ' S' = some r
      | .bk ρ' S' => r = .nx ρ' S'
      | .rt t S' => r = .rt t S'
      | .ex c p ρ' S' => r = .ex c p ρ' S') := by
  simp only [forL] at h
  cases e : gt x ρ S with
  | none => rw [e] at h; cases h
  | some q =>
    rw [e] at h
    refine ⟨q, rfl, ?_⟩
    cases q with
    | nx ρ' S' => exact h
    | ct ρ' S' => exact h
    | bk ρ' S' => exact (Option.some.inj h).symm
    | rt t S' => exact (Option.some.inj h).symm
    | ex c p ρ' S' => exact (Option.some.inj h).symm
def forG (E : EV) (tg : Tg) (b : IS) : T → Rho → Sto → ResS := fun t ρ S => match bindT tg t ρ with | some ρ' => evS E b ρ' S | none => none
theorem for_read {tg : Tg} {src : IE} {b : IS} {D : Ends} {σ : L2.St} {H : Hp} (h : tS g W (evS E (.for_ tg src b)) D σ H) : tFor (tI g W (evE E src)) (tG g tg) (tS g W (evS E b)) D σ H := by
  obtain ⟨fb, m, ρ, S, o, rs, e, Gd⟩ := h
  simp only [evS] at e
  cases es : evE E src ρ S with
  | none => rw [es] at e; cases e
  | some r0 =>
    rw [es] at e
    refine ⟨fb, m, ρ, S, r0, rs, es, ?_⟩
    cases r0 with
    | ex c p S1 =>
      have : o = .ex c p ρ S1 := (Option.some.inj e).symm
      subst this
      exact fun cls d m1 H1 x sr xr => Gd cls d σ m1 H1 x ⟨rs.env.mono x, sr⟩ xr
    | ok t S1 =>
      cases t <;> try (cases e; done)
      rename_i l
      have e : forL (forG E tg b) l ρ S1 = some o := e
      intro J m1 H1 x1 sr1 wk
      have rs1 : RS (g.w fb) m1 σ H1 ρ S1 := ⟨rs.env.mono x1, sr1⟩
      have Gd1 := Gd.ext x1
      obtain ⟨GG, Y, w, hG, hY⟩ := wk.ex
      refine for_it w (fun i σ2 H2 => ∃ m2 ρ2 S2, Ext m1 H1 m2 H2 ∧ RS (g.w fb) m2 σ2 H2 ρ2 S2 ∧ (i ≤ l.length → forL (forG E tg b) (l.drop i) ρ2 S2 = some o)) ?_ ?_ ?_ ?_
      · exact ⟨m1, ρ, S1, Ext.refl _ _, rs1, fun _ => e⟩
      · rintro i σ2 H2 _ ⟨m2, ρ2, S2, x2, _⟩
        exact hG m2 H2 x2
      · rintro i x σ2 H2 H3 hi ⟨m2, ρ2, S2, x2, rs2, el⟩ y
        obtain ⟨t, ht', rt, hH⟩ := hY i fb m2 H2 x H3 hi x2 (fun a ha => .inl ha) (fun a ha => ⟨rs2.sto.fresh ha, rs2.sto.freshF ha⟩) y
        have x23 : Ext m2 H2 m2 H3 := by
          rcases hH with rfl | ⟨p, o, hp, rfl⟩
          · exact Ext.refl _ _
          · exact Ext.new hp
        have sr3 : SRep (g.w fb) m2 H3 S2 := by
          rcases hH with rfl | ⟨p, o, hp, rfl⟩
          · exact rs2.sto
          · exact rs2.sto.new hp
        have hdrop : l.drop i = t :: l.drop (i + 1) := by
          obtain ⟨hlt, e⟩ := List.getElem?_eq_some_iff.mp ht'
          rw [List.drop_eq_getElem_cons hlt, e]
        have el := el (Nat.le_of_lt hi)
        rw [hdrop] at el
        obtain ⟨q, q1, q2⟩ := forL_cons el
        unfold forG at q1
        split at q1
        · rename_i ρ' hb
          refine ⟨fb, m2, t, ρ2, ρ', S2, ⟨rs2.env.mono x23, sr3⟩, rt, hb, fun σ4 rs4 _ => ?_⟩
          refine ⟨fb, m2, ρ', S2, q, rs4, q1, ?_⟩
          have x3 := x2.trans x23
          cases q with
          | nx ρ5 S5 => exact fun σ5 m5 H5 x5 rs5 => ⟨m5, ρ5, S5, x3.trans x5, rs5, fun _ => q2⟩
          | ct ρ5 S5 => exact fun σ5 m5 H5 x5 rs5 => ⟨m5, ρ5, S5, x3.trans x5, rs5, fun _ => q2⟩
          | bk ρ5 S5 =>
            subst q2
            exact fun σ5 m5 H5 x5 rs5 => Gd1 σ5 m5 H5 (x3.trans x5) rs5
          | rt t5 S5 =>
            subst q2
            exact fun v m5 H5 x5 sr5 r5 => Gd1 v m5 H5 (x3.trans x5) sr5 r5
          | ex c p ρ5 S5 =>
            subst q2
            exact fun cls d σ5 m5 H5 x5 rs5 xr => Gd1 cls d σ5 m5 H5 (x3.trans x5) rs5 xr
        · cases q1
      · rintro σ2 H2 ⟨m2, ρ2, S2, x2, rs2, el⟩
        have el := el (Nat.le_refl _)
        rw [List.drop_length] at el
        simp only [forL, Option.some.injEq] at el
        subst el
        exact Gd1 σ2 m2 H2 x2 rs2

theorem whl_read {c : IE} {b : IS} {D : Ends} {σ : L2.St} {H : Hp} (h : tS g W (evS E (.whl c b)) D σ H) : tWhile (tT g W (evE E c)) (tS g W (evS E b)) D σ H := by
  obtain ⟨fb, m, ρ, S, o, rs, e, Gd⟩ := h
  simp only [evS] at e
  refine ⟨fun n σ2 H2 => ∃ m2 ρ2 S2, Ext m H m2 H2 ∧ RS (g.w fb) m2 σ2 H2 ρ2 S2 ∧ whlL (fun ρ S => evE E c ρ S) (fun ρ S => evS E b ρ S) n ρ2 S2 = some o, ⟨_, m, ρ, S, Ext.refl _ _, rs, e⟩, ?_⟩
  rintro n σ2 H2 ⟨m2, ρ2, S2, x2, rs2, e2⟩
  cases n with
  | zero => cases e2
  | succ n =>
    simp only [whlL] at e2
    cases ec : evE E c ρ2 S2 with
    | none => rw [ec] at e2; cases e2
    | some r =>
      rw [ec] at e2
      refine ⟨fb, m2, ρ2, S2, r, rs2, ec, ?_⟩
      cases r with
      | ex c p S3 =>
        have : o = .ex c p ρ2 S3 := (Option.some.inj e2).symm
        subst this
        exact fun cls d m3 H3 x3 sr xr => Gd cls d σ2 m3 H3 (x2.trans x3) ⟨rs2.env.mono x3, sr⟩ xr
      | ok t S3 =>
        simp only at e2
        split at e2
        · rename_i ht
          refine ⟨true, ht, fun m3 H3 x3 sr3 => iteT ⟨fun σ4 H4 => ∃ m4 ρ4 S4, Ext m H m4 H4 ∧ RS (g.w fb) m4 σ4 H4 ρ4 S4 ∧ whlL (fun ρ S => evE E c ρ S) (fun ρ S => evS E b ρ S) n ρ4 S4 = some o, fun σ4 H4 q => ⟨n, Nat.lt_succ_self n, q⟩, ?_⟩⟩
          have x3' := x2.trans x3
          cases eb : evS E b ρ2 S3 with
          | none => rw [eb] at e2; cases e2
          | some q =>
            rw [eb] at e2
            refine ⟨fb, m3, ρ2, S3, q, ⟨rs2.env.mono x3, sr3⟩, eb, ?_⟩
            cases q with
            | nx ρ5 S5 => exact fun σ5 m5 H5 x5 rs5 => ⟨m5, ρ5, S5, x3'.trans x5, rs5, e2⟩
            | ct ρ5 S5 => exact fun σ5 m5 H5 x5 rs5 => ⟨m5, ρ5, S5, x3'.trans x5, rs5, e2⟩
            | bk ρ5 S5 =>
              have := (Option.some.inj e2).symm
              subst this
              exact fun σ5 m5 H5 x5 rs5 => Gd σ5 m5 H5 (x3'.trans x5) rs5
            | rt t5 S5 =>
              have := (Option.some.inj e2).symm
              subst this
              exact fun v m5 H5 x5 sr5 r5 => Gd v m5 H5 (x3'.trans x5) sr5 r5
            | ex c p ρ5 S5 =>
              have := (Option.some.inj e2).symm
              subst this
              exact fun cls d σ5 m5 H5 x5 rs5 xr => Gd cls d σ5 m5 H5 (x3'.trans x5) rs5 xr
        · rename_i ht
          have := (Option.some.inj e2).symm
          subst this
          exact ⟨false, ht, fun m3 H3 x3 sr3 => iteF (Gd σ2 m3 H3 (x2.trans x3) ⟨rs2.env.mono x3, sr3⟩)⟩
        · cases e2
end
end Fw

namespace Fw
open PySem L2 PyProof.Rows

section
variable {g : GW} {E : EV} {G : Gm} {W : WX} {X : Cx}

/-! ### stores into lists -/
def rWApp (g : GW) : V → List V → Hp → VK → Prop := fun x vs H Q => ∃ fb m S S' o t y, vs = [y] ∧ SRep (g.w fb) m H S ∧ Rep (g.w fb) m H o x ∧ Rep (g.w fb) m H t y ∧ wApp S o t = some S' ∧ ∀ m' H', Ext m H m' H' → SRep (g.w fb) m' H' S' → Q .non H'
theorem mt_wapp : MtM X "list.append" (rWApp g) := by
  intro pins s σ H x xs v us Q I rx rs h
  obtain ⟨fb, m, S, S', o, t, y, rfl, sr, ro, rt, e, k⟩ := h
  unfold wApp at e
  split at e
  · rename_i n
    split at e
    · rename_i l hl
      split at e
      · rename_i hlen
        simp only [Option.some.injEq] at e
        subst e
        simp only [Rep] at ro
        obtain ⟨a, h1, rfl⟩ := ro
        obtain ⟨vs, q1, rl⟩ := sr.at_ n _ a hl h1
        refine mt_append pins s σ H _ _ v us Q I rx rs ⟨a, vs, y, rfl, rfl, q1, by rw [← rl.length, ← line_eq]; exact hlen, ?_⟩
        exact k m _ (Ext.write (List.mem_of_getElem? h1)) (sr.write h1 (rl.append (RepL.cons rt RepL.nil)))
      · cases e
    · cases e
  · cases e
def rWSub (g : GW) : V → V → V → Hp → (Hp → Prop) → Prop := fun x i y H Q => ∃ fb m S S' o j t, SRep (g.w fb) m H S ∧ Rep (g.w fb) m H o x ∧ Rep (g.w fb) m H j i ∧ Rep (g.w fb) m H t y ∧ wSub S o j t = some S' ∧ ∀ m' H', Ext m H m' H' → SRep (g.w fb) m' H' S' → Q H'
theorem set_wsub : PSet X (rWSub g) := by
  intro pins s σ H o i v ov iv u Q I ro ri rv h
  obtain ⟨fb, m, S, S', o', j, t, sr, rep1, rep2, rep3, e, k⟩ := h
  unfold wSub at e
  split at e
  · rename_i n kk
    split at e
    · rename_i l hl
      split at e
      · rename_i z hz
        simp only [Option.some.injEq] at e
        subst e
        simp only [Rep] at rep1
        obtain ⟨a, h1, rfl⟩ := rep1
        cases RepD.int (RepD.of rep2)
        obtain ⟨vs, q1, rl⟩ := sr.at_ n _ a hl h1
        refine set_list pins s σ H _ _ v ov iv u Q I ro ri rv ⟨a, vs, kk, z, rfl, rfl, q1, by rw [← rl.length]; exact hz, ?_⟩
        exact k m _ (Ext.write (List.mem_of_getElem? h1)) (sr.write h1 (rl.set z rep3))
      · cases e
    · cases e
  · cases e

theorem vS_pass {s : Stmt} (h : vS s = some .pass) : ∃ p, s = .Pass p := by
  unfold vS at h
  split at h <;> simp only [Option.some.injEq, reduceCtorEq] at h <;> try (cases h; done)
  exact ⟨_, rfl⟩
theorem vS_brk {s : Stmt} (h : vS s = some .brk) : ∃ p, s = .Break p := by
  unfold vS at h
  split at h <;> simp only [Option.some.injEq, reduceCtorEq] at h <;> try (cases h; done)
  exact ⟨_, rfl⟩
theorem vS_cnt {s : Stmt} (h : vS s = some .cnt) : ∃ p, s = .Continue p := by
  unfold vS at h
  split at h <;> simp only [Option.some.injEq, reduceCtorEq] at h <;> try (cases h; done)
  exact ⟨_, rfl⟩
theorem vS_ret {s : Stmt} {e : Option Expr} (h : vS s = some (.ret e)) : ∃ p, s = .Return e p := by
  unfold vS at h
  split at h <;> simp only [Option.some.injEq, reduceCtorEq, VS.ret.injEq] at h <;> try (cases h; done)
  subst h; exact ⟨_, rfl⟩
theorem vS_expr {s : Stmt} {e : Expr} (h : vS s = some (.expr e)) : ∃ p, s = .Expr e p := by
  unfold vS at h
  split at h <;> simp only [Option.some.injEq, reduceCtorEq, VS.expr.injEq] at h <;> try (cases h; done)
  subst h; exact ⟨_, rfl⟩
theorem vS_iff {s : Stmt} {e : Expr} {a b : List Stmt} (h : vS s = some (.iff e a b)) : ∃ p, s = .If e a b p := by
  unfold vS at h
  split at h <;> simp only [Option.some.injEq, reduceCtorEq, VS.iff.injEq] at h <;> try (cases h; done)
  obtain ⟨rfl, rfl, rfl⟩ := h; exact ⟨_, rfl⟩
theorem vS_for {s : Stmt} {t e : Expr} {a : List Stmt} (h : vS s = some (.for_ t e a)) : ∃ p, s = .For t e a [] p := by
  unfold vS at h
  split at h <;> simp only [Option.some.injEq, reduceCtorEq, VS.for_.injEq] at h <;> try (cases h; done)
  obtain ⟨rfl, rfl, rfl⟩ := h; exact ⟨_, rfl⟩
theorem vS_whl {s : Stmt} {e : Expr} {a : List Stmt} (h : vS s = some (.whl e a)) : ∃ p, s = .While e a [] p := by
  unfold vS at h
  split at h <;> simp only [Option.some.injEq, reduceCtorEq, VS.whl.injEq] at h <;> try (cases h; done)
  obtain ⟨rfl, rfl⟩ := h; exact ⟨_, rfl⟩
theorem vS_rs {s : Stmt} {e : Expr} (h : vS s = some (.rs e)) : ∃ p, s = .Raise (some e) none p := by
  unfold vS at h
  split at h <;> simp only [Option.some.injEq, reduceCtorEq, VS.rs.injEq] at h <;> try (cases h; done)
  subst h; exact ⟨_, rfl⟩
theorem vSub_eq {e a b : Expr} (h : vSub e = some (a, b)) : ∃ p, e = .Subscript a b p ∧ ∀ env v, assign (.Subscript a b p) env v = (do
      let ov ← holding [v] (eval a env)
      let iv ← holding [v, ov] (eval b env)
      standAt p
      holding [v, ov, iv] (setItem ov iv v)
      release [v, ov, iv] []) := by
  cases e with
  | Subscript x y p =>
    cases y <;> simp [vSub] at h
    all_goals
      obtain ⟨rfl, rfl⟩ := h
      exact ⟨p, rfl, fun _ _ => rfl⟩
  | _ => simp [vSub] at h
theorem vRs_eq {e : Expr} {x : Str} (h : vRs e = some x) : ∃ p z k p2 q, e = .Call (.Name x p) [.Constant (.str z) k p2] [] q := by
  unfold vRs at h
  split at h
  · simp only [Option.some.injEq] at h; subst h; exact ⟨_, _, _, _, _, rfl⟩
  · cases h
theorem vName2_eq {l : List Expr} {x y : Str} (h : vName2 l = some (x, y)) : ∃ p q, l = [.Name x p, .Name y q] := by
  unfold vName2 at h
  split at h
  · simp only [Option.some.injEq, Prod.mk.injEq] at h; obtain ⟨rfl, rfl⟩ := h; exact ⟨_, _, rfl⟩
  · cases h
theorem vName3_eq {l : List Expr} {x y z : Str} (h : vName3 l = some (x, y, z)) : ∃ p q r, l = [.Name x p, .Name y q, .Name z r] := by
  unfold vName3 at h
  split at h
  · simp only [Option.some.injEq, Prod.mk.injEq] at h; obtain ⟨rfl, rfl, rfl⟩ := h; exact ⟨_, _, _, rfl⟩
  · cases h

theorem asg_read {tg : Tg} {e : IE} {D : Ends} {σ : L2.St} {H : Hp} (h : tS g W (evS E (.asg tg e)) D σ H) : tAsg (tE g W (evE E e)) (tG g tg) D σ H := by
  obtain ⟨fb, m, ρ, S, o, rs, eq, Gd⟩ := h
  simp only [evS] at eq
  refine tS_bnd eq rs Gd fun t S1 v m1 H1 e1 x1 rs1 r1 Gd1 => ?_
  split at e1
  · rename_i ρ' hb
    simp only [Option.some.injEq] at e1
    subst e1
    exact ⟨fb, m1, t, ρ, ρ', S1, rs1, r1, hb, fun σ' rs' _ => Gd1 σ' m1 H1 (Ext.refl _ _) rs'⟩
  · cases e1

/-- a comprehension's list goes to its name -/
theorem ps_swc {i : Nat} {x : Str} {v : Expr} {px p : Pos} {e : IE} (so : SOk G g E W X) (hi : G.N[i]? = some x) (hc : chkE G e v = true) (hs : swC G x px.line v = true) : PS X (.Assign [.Name x px] v p) (tS g W (evS E (.asg (.nm i) e))) := by
  have xo := so.xo
  cases v <;> try (cases hs; done)
  rename_i elt gs scope pos
  simp only [swC, Bool.and_eq_true, Bool.not_eq_true', isKind, decide_eq_true_eq] at hs
  obtain ⟨⟨h1, h2⟩, h3⟩ := hs
  have key : ∃ bx own elt' tg src cnd, e = .lc bx own elt' tg src cnd := by
    cases e <;> simp only [chkE] at hc <;> first
      | exact ⟨_, _, _, _, _, _, rfl⟩
      | (exfalso; revert hc; simp [lits, vName, vTup, vLst, vBin, vCmp, vChn, vNeg, vNot, vAnd, vOr, vIfE, vIx, vSl, vRev, vCall, vMth, vLam]; done)
      | skip
    rename_i vv
    exfalso
    revert hc
    cases vv <;> simp [lits, vConst, vName]
  obtain ⟨bx, own, elt', tg, src, cnd, rfl⟩ := key
  obtain ⟨x', t, it, cs, scope', q, wi, tt, ow, he, ho, k1, k2, k3, k4, k5, k6, k7⟩ := lc_parts xo (sound elt') (sound src) (sound cnd) hc
  cases he
  have hN : X.N.Nodup := by rw [xo.N]; exact xo.nd
  have hi' : X.N[i]? = some x := by rw [xo.N]; exact hi
  have hl : X.env.scope.names.lookup x = some .local := by rw [xo.sc]; exact h1
  refine (ps_setLc (i := i) xo.calm hN hi' hl (sw_true so.kd hl h2 h3) k1 k2 k3 k4 k5 k6).of fun D σ H h => ?_
  obtain ⟨fb, m, ρ, S, o, rs, eq, Gd⟩ := h
  simp only [evS] at eq
  rw [ho]
  refine k7 σ H _ (tS_bnd (f := evE E (.lc bx own elt' tg src cnd)) eq rs Gd fun t S1 v m1 H1 e1 x1 rs1 r1 Gd1 => ?_)
  simp only [bindT, Option.some.injEq] at e1
  subst e1
  exact Gd1 _ m1 H1 (Ext.refl _ _) ⟨rs1.env.set i r1, rs1.sto⟩

structure SndS (g : GW) (E : EV) (st : IS) : Prop where
  s : ∀ (G : Gm) (W : WX) (X : Cx), SOk G g E W X → ∀ s, chkS G st s = true → PS X s (tS g W (evS E st))
  b : ∀ (G : Gm) (W : WX) (X : Cx), SOk G g E W X → ∀ l, chkB G st l = true → PSs X l (tS g W (evS E st))
theorem snd_s {st : IS} (h : ∀ (G : Gm) (W : WX) (X : Cx), SOk G g E W X → ∀ s, chkS G st s = true → PS X s (tS g W (evS E st))) (hb : ∀ G l, chkB G st l = false) : SndS g E st :=
  ⟨h, fun G W X _ l q => (by rw [hb] at q; cases q)⟩

theorem soundS : ∀ st : IS, SndS g E st := by
  intro st
  induction st with
  | skip =>
    refine ⟨fun G W X so s h => (by simp [chkS] at h), fun G W X so l h => ?_⟩
    simp only [chkB, List.isEmpty_iff] at h
    subst h
    refine pss_nil.of fun D σ H ⟨fb, m, ρ, S, o, rs, e, Gd⟩ => ?_
    simp only [evS, Option.some.injEq] at e
    subst e
    exact Gd σ m H (Ext.refl _ _) rs
  | seq a b iha ihb =>
    refine ⟨fun G W X so s h => (by simp [chkS] at h), fun G W X so l h => ?_⟩
    simp only [chkB] at h
    split at h
    · rename_i s r
      simp only [Bool.and_eq_true] at h
      refine (pss_cons (iha.s G W X so s h.1) (ihb.b G W X so r h.2)).of fun D σ H ⟨fb, m, ρ, S, o, rs, e, Gd⟩ => ?_
      simp only [evS] at e
      cases ea : evS E a ρ S with
      | none => rw [ea] at e; cases e
      | some q =>
        rw [ea] at e
        refine ⟨fb, m, ρ, S, q, rs, ea, ?_⟩
        cases q with
        | nx ρ' S' => exact fun σ' m' H' x rs' => ⟨fb, m', ρ', S', o, rs', e, Gd.ext x⟩
        | _ =>
          have := (Option.some.inj e).symm
          subst this
          exact Gd
    · cases h
  | pass =>
    refine snd_s (fun G W X so s h => ?_) fun _ _ => by simp [chkB]
    simp only [chkS] at h
    split at h
    · rename_i hv
      obtain ⟨p, rfl⟩ := vS_pass hv
      refine ps_pass.of fun D σ H ⟨fb, m, ρ, S, o, rs, e, Gd⟩ => ?_
      simp only [evS, Option.some.injEq] at e
      subst e
      exact Gd σ m H (Ext.refl _ _) rs
    · cases h
  | brk =>
    refine snd_s (fun G W X so s h => ?_) fun _ _ => by simp [chkB]
    simp only [chkS] at h
    split at h
    · rename_i hv
      obtain ⟨p, rfl⟩ := vS_brk hv
      refine ps_break.of fun D σ H ⟨fb, m, ρ, S, o, rs, e, Gd⟩ => ?_
      simp only [evS, Option.some.injEq] at e
      subst e
      exact Gd σ m H (Ext.refl _ _) rs
    · cases h
  | cnt =>
    refine snd_s (fun G W X so s h => ?_) fun _ _ => by simp [chkB]
    simp only [chkS] at h
    split at h
    · rename_i hv
      obtain ⟨p, rfl⟩ := vS_cnt hv
      refine ps_continue.of fun D σ H ⟨fb, m, ρ, S, o, rs, e, Gd⟩ => ?_
      simp only [evS, Option.some.injEq] at e
      subst e
      exact Gd σ m H (Ext.refl _ _) rs
    · cases h
  | ret e =>
    refine snd_s (fun G W X so s h => ?_) fun _ _ => by simp [chkB]
    simp only [chkS] at h
    split at h
    · rename_i x hv
      obtain ⟨p, rfl⟩ := vS_ret hv
      refine (ps_ret ((sound e).e G W X so.xo x h).1).of fun D σ H ⟨fb, m, ρ, S, o, rs, eq, Gd⟩ => ?_
      simp only [evS] at eq
      refine tS_bnd eq rs Gd fun t S1 v m1 H1 e1 x1 rs1 r1 Gd1 => ?_
      simp only [Option.some.injEq] at e1
      subst e1
      exact Gd1 v m1 H1 (Ext.refl _ _) rs1.sto r1
    · rename_i hv
      obtain ⟨p, rfl⟩ := vS_ret hv
      split at h
      · refine ps_retN.of fun D σ H ⟨fb, m, ρ, S, o, rs, eq, Gd⟩ => ?_
        simp only [evS, evE, bndS, Option.some.injEq] at eq
        subst eq
        exact Gd .non m H (Ext.refl _ _) rs.sto Rep.non_
      · cases h
    · cases h
  | expr e =>
    refine snd_s (fun G W X so s h => ?_) fun _ _ => by simp [chkB]
    simp only [chkS] at h
    split at h
    · rename_i x hv
      obtain ⟨p, rfl⟩ := vS_expr hv
      simp only [Bool.and_eq_true] at h
      refine (ps_expr ((sound e).e G W X so.xo x h.1).1 (nocomp_sw h.2)).of fun D σ H ⟨fb, m, ρ, S, o, rs, eq, Gd⟩ => ?_
      simp only [evS] at eq
      refine tS_bnd eq rs Gd fun t S1 v m1 H1 e1 x1 rs1 r1 Gd1 => ?_
      simp only [Option.some.injEq] at e1
      subst e1
      exact Gd1 σ m1 H1 (Ext.refl _ _) rs1
    · cases h
  | asg tg e =>
    refine snd_s (fun G W X so s h => ?_) fun _ _ => by simp [chkB]
    simp only [chkS] at h
    split at h
    · rename_i t v l hv
      obtain ⟨p, rfl, rfl⟩ := vS_asg hv
      simp only [Bool.and_eq_true] at h
      obtain ⟨h1, h2, h3⟩ := h
      have xo := so.xo
      have pe := ((sound (g := g) (E := E) e).e G W X xo v h2).1
      have pg := (pg_sound xo.N xo.nd xo.sc xo.calm xo.K xo.fn tg).1 t h1
      split at h3
      · rename_i x hn
        obtain ⟨px, rfl⟩ := vName_eq hn
        rcases Bool.or_eq_true_iff.mp h3 with h3 | h3
        · have hs : swapsWithSole [.Name x px] v p.line X.env = pure false := by
            rcases Bool.or_eq_true_iff.mp h3 with h3 | h3
            · exact nocomp_sole h3
            · exact swf_sole xo.sc h3
          refine (ps_asg pe pg hs (by cases v <;> rfl) rfl).of fun D σ H z => asg_read z
        · cases tg with
          | nm i =>
            simp only [chkT, vName, Bool.and_eq_true, decide_eq_true_eq] at h1
            exact ps_swc so h1.1 h2 h3
          | tp a => simp [chkT, vTup] at h1
          | nl => simp [chkT] at h1
          | cn a b => simp [chkT] at h1
      · split at h3
        · rename_i ts ht
          obtain ⟨k, p2, rfl⟩ := vTup_eq ht
          simp only [Bool.and_eq_true] at h3
          exact (ps_asg pe pg (nocomp_sole h3.1) (asOne_ok xo.sc so.kd h3.2) rfl).of fun D σ H z => asg_read z
        · cases h3
    · cases h
  | par2 i j es =>
    refine snd_s (fun G W X so s h => ?_) fun _ _ => by simp [chkB]
    simp only [chkS] at h
    split at h
    · rename_i t v l hv
      obtain ⟨p, rfl, rfl⟩ := vS_asg hv
      split at h
      · rename_i ts ht
        obtain ⟨k1, p1, rfl⟩ := vTup_eq ht
        split at h
        · rename_i vs hvs
          obtain ⟨k2, p2, rfl⟩ := vTup_eq hvs
          split at h
          · rename_i x y hxy
            obtain ⟨q1, q2, rfl⟩ := vName2_eq hxy
            simp only [Bool.and_eq_true, decide_eq_true_eq, isKind] at h
            obtain ⟨h1, h2, h3, h4, h5, h6, h7, h8⟩ := h
            have xo := so.xo
            obtain ⟨a, b, rfl⟩ : ∃ a b, vs = [a, b] := by
              match vs, h8 with
              | [a, b], _ => exact ⟨a, b, rfl⟩
            have pa := (sound (g := g) (E := E) es).a G W X xo _ h7
            refine (ps_par (i := i) (j := j) xo.calm (by rw [xo.N]; exact xo.nd) (by rw [xo.N]; exact h1) (by rw [xo.N]; exact h2) h3 (by rw [xo.sc]; exact h4) (by rw [xo.sc]; exact h5) pa (swN_ok so.kd (by rw [xo.sc]; exact h6)) rfl).of fun D σ H ⟨fb, m, ρ, S, o, rs, eq, Gd⟩ => ?_
            simp only [evS] at eq
            refine tS_args eq rs Gd fun t S1 e1 => ?_
            split at e1
            · rename_i t1 t2
              simp only [Option.some.injEq] at e1
              subst e1
              refine ⟨_, rfl, fun us m1 H1 x1 rs1 rp Gd1 => ?_⟩
              obtain ⟨u1, u2, rfl, r1, r2⟩ := rp.two
              exact ⟨u1, u2, rfl, Gd1 _ m1 H1 (Ext.refl _ _) ⟨(rs1.env.set i r1).set j r2, rs1.sto⟩⟩
            · cases e1
          · cases h
        · cases h
      · cases h
    · cases h
  | par3 i j kk es =>
    refine snd_s (fun G W X so s h => ?_) fun _ _ => by simp [chkB]
    simp only [chkS] at h
    split at h
    · rename_i t v l hv
      obtain ⟨p, rfl, rfl⟩ := vS_asg hv
      split at h
      · rename_i ts ht
        obtain ⟨k1, p1, rfl⟩ := vTup_eq ht
        split at h
        · rename_i vs hvs
          obtain ⟨k2, p2, rfl⟩ := vTup_eq hvs
          split at h
          · rename_i x y z hxy
            obtain ⟨q1, q2, q3, rfl⟩ := vName3_eq hxy
            simp only [Bool.and_eq_true, decide_eq_true_eq, isKind] at h
            obtain ⟨h1, h2, h2', h3, h3', h3'', h4, h5, h5', h6, h7, h8⟩ := h
            have xo := so.xo
            obtain ⟨a, b, c, rfl⟩ : ∃ a b c, vs = [a, b, c] := by
              match vs, h8 with
              | [a, b, c], _ => exact ⟨a, b, c, rfl⟩
            have pa := (sound (g := g) (E := E) es).a G W X xo _ h7
            refine (ps_par3 (i := i) (j := j) (l := kk) xo.calm (by rw [xo.N]; exact xo.nd) (by rw [xo.N]; exact h1) (by rw [xo.N]; exact h2) (by rw [xo.N]; exact h2') h3 h3' h3'' (by rw [xo.sc]; exact h4) (by rw [xo.sc]; exact h5) (by rw [xo.sc]; exact h5') pa (swN_ok so.kd (by rw [xo.sc]; exact h6)) rfl).of fun D σ H ⟨fb, m, ρ, S, o, rs, eq, Gd⟩ => ?_
            simp only [evS] at eq
            refine tS_args eq rs Gd fun t S1 e1 => ?_
            split at e1
            · rename_i t1 t2 t3
              simp only [Option.some.injEq] at e1
              subst e1
              refine ⟨_, rfl, fun us m1 H1 x1 rs1 rp Gd1 => ?_⟩
              simp only [RepL] at rp
              obtain ⟨u1, _, rfl, r1, u2, _, rfl, r2, u3, _, rfl, r3, rfl⟩ := rp
              exact ⟨u1, u2, u3, rfl, Gd1 _ m1 H1 (Ext.refl _ _) ⟨((rs1.env.set i r1).set j r2).set kk r3, rs1.sto⟩⟩
            · cases e1
          · cases h
        · cases h
      · cases h
    · cases h
  | sub o i e =>
    refine snd_s (fun G W X so s h => ?_) fun _ _ => by simp [chkB]
    simp only [chkS] at h
    split at h
    · rename_i t v l hv
      obtain ⟨p, rfl, rfl⟩ := vS_asg hv
      split at h
      · rename_i x y ht
        obtain ⟨p2, rfl, has⟩ := vSub_eq ht
        simp only [Bool.and_eq_true] at h
        obtain ⟨h1, h2, h3⟩ := h
        have xo := so.xo
        have hs : swapsWithSole [.Subscript x y p2] v p.line X.env = pure false := by
          show swapsWith v (some (.Subscript x y p2)) p.line X.env = pure false
          cases v <;> rfl
        have hw : swappedStores [.Subscript x y p2] v X.env = pure none := by cases v <;> rfl
        refine (ps_asg ((sound (g := g) (E := E) e).e G W X xo v h3).1 (pg_sub ((sound (g := g) (E := E) o).e G W X xo x h1).1 ((sound (g := g) (E := E) i).e G W X xo y h2).1 (set_wsub (g := g)) (has X.env)) hs hw rfl).of fun D σ H ⟨fb, m, ρ, S, o', rs, eq, Gd⟩ => ?_
        simp only [evS] at eq
        refine tS_bnd eq rs Gd fun t S1 v1 m1 H1 e1 x1 rs1 r1 Gd1 => ?_
        refine tS_bnd e1 rs1 Gd1 fun t2 S2 v2 m2 H2 e2 x2 rs2 r2 Gd2 => ?_
        refine tS_bnd e2 rs2 Gd2 fun t3 S3 v3 m3 H3 e3 x3 rs3 r3 Gd3 => ?_
        split at e3
        · rename_i S4 hS
          simp only [Option.some.injEq] at e3
          subst e3
          exact ⟨fb, m3, S3, S4, t2, t3, t, rs3.sto, Rep.mono x3 _ r2, r3, Rep.mono x3 _ (Rep.mono x2 _ r1), hS, fun m' H' x' sr' => Gd3 σ m' H' x' ⟨rs3.env.mono x', sr'⟩⟩
        · cases e3
      · cases h
    · cases h
  | app o e =>
    refine snd_s (fun G W X so s h => ?_) fun _ _ => by simp [chkB]
    simp only [chkS] at h
    split at h
    · rename_i x hv
      obtain ⟨p, rfl⟩ := vS_expr hv
      split at h
      · rename_i ob n y hm
        obtain ⟨ap, pos, rfl, hl⟩ := vMth_eq hm
        simp only [Bool.and_eq_true, beq_iff_eq] at h
        obtain ⟨rfl, h2, h3, h4, h5⟩ := h
        have xo := so.xo
        have po := ((sound (g := g) (E := E) o).e G W X xo ob h4).1
        have pe := ((sound (g := g) (E := E) e).e G W X xo y h5).1
        have pm := pe_bm (apos := ap) (cpos := pos) PySem.F.plainAttrs_list PySem.F.slot_list_append PySem.F.type_list_append (mt_wapp (X := X) (g := g)) po (pa_cons pe pa_nil (starEach_cons h3)) (nosup h2) (by rw [star1 h3]; rfl) hl (starEach_cons h3) rfl
        refine (ps_expr pm rfl).of fun D σ H ⟨fb, m, ρ, S, o', rs, eq, Gd⟩ => ?_
        simp only [evS] at eq
        refine tS_bnd eq rs Gd fun t1 S1 v1 m1 H1 e1 x1 rs1 r1 Gd1 => ?_
        split at e1
        · rename_i hb
          have ty : tyV X.K "list" v1 H1 := by
            unfold isLst at hb
            split at hb
            · rename_i nn
              split at hb
              · rename_i l hl
                have r1' := r1
                simp only [Rep] at r1'
                obtain ⟨a, k1, rfl⟩ := r1'
                obtain ⟨vs, q1, _⟩ := rs1.sto.at_ nn _ a hl k1
                exact .inl ⟨rfl, vs, SqL.of q1⟩
              · cases hb
            · cases hb
          refine ⟨ty, tS_bnd e1 rs1 Gd1 fun t2 S2 v2 m2 H2 e2 x2 rs2 r2 Gd2 => ?_⟩
          split at e2
          · rename_i S3 hS
            simp only [Option.some.injEq] at e2
            subst e2
            exact ⟨fb, m2, S2, S3, t1, t2, v2, rfl, rs2.sto, Rep.mono x2 _ r1, r2, hS, fun m' H' x' sr' => Gd2 σ m' H' x' ⟨rs2.env.mono x', sr'⟩⟩
          · cases e2
        · cases e1
      · cases h
    · cases h
  | iff c a b iha ihb =>
    refine snd_s (fun G W X so s h => ?_) fun _ _ => by simp [chkB]
    simp only [chkS] at h
    split at h
    · rename_i x p q hv
      obtain ⟨ps, rfl⟩ := vS_iff hv
      simp only [Bool.and_eq_true] at h
      obtain ⟨h1, h2, h3, h4⟩ := h
      refine (ps_if (((sound (g := g) (E := E) c).e G W X so.xo x h1).2 h2) (iha.b G W X so p h3) (ihb.b G W X so q h4)).of fun D σ H ⟨fb, m, ρ, S, o, rs, eq, Gd⟩ => ?_
      simp only [evS] at eq
      refine tS_tst eq rs Gd fun t S1 e1 => ?_
      split at e1
      · rename_i hb
        exact ⟨true, hb, fun m1 H1 x1 rs1 Gd1 => iteT ⟨fb, m1, ρ, S1, o, rs1, e1, Gd1⟩⟩
      · rename_i hb
        exact ⟨false, hb, fun m1 H1 x1 rs1 Gd1 => iteF ⟨fb, m1, ρ, S1, o, rs1, e1, Gd1⟩⟩
      · cases e1
    · cases h
  | for_ tg src b ihb =>
    refine snd_s (fun G W X so s h => ?_) fun _ _ => by simp [chkB]
    simp only [chkS] at h
    split at h
    · rename_i t it p hv
      obtain ⟨ps, rfl⟩ := vS_for hv
      simp only [Bool.and_eq_true] at h
      obtain ⟨h1, h2, h3, h4, h5⟩ := h
      have xo := so.xo
      exact (ps_for so.po xo.calm ((sound (g := g) (E := E) src).i G W X xo t it h2 h3) ((pg_sound xo.N xo.nd xo.sc xo.calm xo.K xo.fn tg).1 t h1) (ihb.b G W X so p h5) (noset_fold h4)).of fun D σ H z => for_read z
    · cases h
  | whl c b ihb =>
    refine snd_s (fun G W X so s h => ?_) fun _ _ => by simp [chkB]
    simp only [chkS] at h
    split at h
    · rename_i x p hv
      obtain ⟨ps, rfl⟩ := vS_whl hv
      simp only [Bool.and_eq_true] at h
      obtain ⟨h1, h2, h3⟩ := h
      exact (ps_while so.po (((sound (g := g) (E := E) c).e G W X so.xo x h1).2 h2) (ihb.b G W X so p h3)).of fun D σ H z => whl_read z
    · cases h
  | rs c =>
    refine snd_s (fun G W X so s h => ?_) fun _ _ => by simp [chkB]
    simp only [chkS] at h
    split at h
    · rename_i e hv
      obtain ⟨ps, rfl⟩ := vS_rs hv
      split at h
      · rename_i x hx
        obtain ⟨p, z, k, p2, q, rfl⟩ := vRs_eq hx
        simp only [Bool.and_eq_true] at h
        obtain ⟨gl, db⟩ := glb_gl so.xo h.2
        obtain ⟨B, n1, n2, bm, F, h1, h2, h3, h4⟩ := so.exc c x (isNm_eq h.1)
        refine (ps_raise so.xo.calm so.xo.tk (pmk_own F h1 h2 h3 h4 gl db)).of fun D σ H ⟨fb, m, ρ, S, o, rs, eq, Gd⟩ => ?_
        simp only [evS, Option.some.injEq] at eq
        subst eq
        exact Gd _ _ σ m H (Ext.refl _ _) rs ⟨rfl, rfl, rfl⟩
      · cases h
    · cases h
end
end Fw

namespace Fw
open PySem L2 PyProof.Rows

/-! ### the def that calls a lambda and tells how it ended -/
def chkHds (en : Nat → Option Str) (sc : Scope) : List ExceptHandler → List (Nat × Str) → Bool
  | [], [] => true
  | h :: hs, p :: r => (match h with
    | .ExceptHandler (some (.Name x _)) none [.Return (some (.Constant (.str s) _ _)) _] _ => isNm (en p.1) x && (isKind sc x .globalImplicit && (dbg x && (s == p.2 && chkHds en sc hs r)))
    | _ => false)
  | _, _ => false
def chkLi (en : Nat → Option Str) (sc : Scope) (a : Str) (hds : List (Nat × Str)) (r : Str) : List Stmt → Bool
  | [.Try [.Expr (.Call (.Name y _) [] [] _) _] (h :: hs) [] [] _, .Return (some (.Constant (.str s) _ _)) _] => (y == a) && ((s == r) && chkHds en sc (h :: hs) hds)
  | _ => false
def hTs (g : GW) (hds : List (Nat × Str)) : List (Value × (Addr → Value → Option Addr → TS)) := hds.map fun p => (.ref (g.ea p.1), fun _ _ _ => tRet (tC (.str p.2)))
theorem hds_ok {X : Cx} {g : GW} {en : Nat → Option Str} {sc : Scope} (hsc : X.env.scope = sc) (hm : ∀ c x, en c = some x → X.mg x = some (.ref (g.ea c))) : ∀ {hs : List ExceptHandler} {hds : List (Nat × Str)}, chkHds en sc hs hds = true → HdsOk X hs (hTs g hds)
  | [], [], _ => .nil
  | [], _ :: _, h => by cases h
  | _ :: _, [], h => by cases h
  | h :: hs, p :: r, hc => by
    unfold chkHds at hc
    split at hc
    · rename_i x px s j p1 p2 p3
      simp only [Bool.and_eq_true, beq_iff_eq] at hc
      obtain ⟨h1, h2, h3, h4, h5⟩ := hc
      subst h4
      simp only [dbg, Bool.and_eq_true, Bool.not_eq_true'] at h3
      simp only [isKind, decide_eq_true_eq] at h2
      have gl : Gl X x := by
        show X.env.scope.names.lookup x = _
        rw [hsc]; exact h2
      exact .cons ⟨gl, h3.1, .inl (hm _ _ (isNm_eq h1))⟩ (fun a oe cls d pn _ _ => pss_one (ps_ret pe_str)) (hds_ok hsc hm h5)
    · cases hc
theorem hOk_many {K : PySem.W.Frag} {g : GW} {Q : VK} {D : Ends} (hD : D.rt = Q) : ∀ {hds : List (Nat × Str)} {cls : Value} {d : Option Addr} {σ : L2.St} {H : Hp}, hOk K g Q hds cls d H → wMany K (fun _ _ _ _ => False) D (hTs g hds) cls d σ H
  | [], _, _, _, _, h => h
  | (c, s) :: r, cls, d, σ, H, h => by
    obtain ⟨b, h1, h2, h3⟩ := h
    refine ⟨b, h1, fun hb a _ => ?_, fun hb => hOk_many hD (h3 hb)⟩
    show D.rt (.str s) H
    rw [hD]; exact h2 hb
theorem gives {X : Cx} {g : GW} {en : Nat → Option Str} {x a q r : Str} {sg : Scope} {g0 : Addr} {cdv : Value} {Ng : List Str} {hds : List (Nat × Str)} {bg : List Stmt} (hc : chkLi en sg a hds r bg = true) (hm : ∀ c x, en c = some x → X.mg x = some (.ref (g.ea c))) (h0 : ∀ f : Addr, (L2.start Ng [V.ref f])[0]? = some (some (V.ref f))) :
    LamX.GivesTo X Ng x sg g0 cdv bg a q (TTm X.K g hds r) := by
  unfold chkLi at hc
  split at hc
  · rename_i y p1 p2 p3 hd hs p4 s j p5 p6
    simp only [Bool.and_eq_true, beq_iff_eq] at hc
    obtain ⟨e1, e2, hc⟩ := hc
    subst e1; subst e2
    intro f c' s1 H Q tl act hcc ht
    have hh := hds_ok (X := (cxOf C8.CX0 X.prog X.w X.K X.mg X.base Ng x sg g0 cdv X.A X.stack s1 H C8.E0).nox) (g := g) rfl hm hc
    refine ⟨_, pss_cons (ps_try_many (tb := fun W D σ H => ∃ Ech : XK, (∀ cls d σ' H', Ech cls d H' → W cls d σ' H') ∧ σ[0]? = some (some (.ref f)) ∧ H c' = some (LamX.CodeO c' q) ∧ tl Ech H fun _ H' => D.nx σ H') rfl rfl LamX.takes0 (fun W pn xe tk _ => ?_) hh) (pss_one (ps_ret pe_str)), ?_⟩
    · refine ⟨fun pins s' σ H' D I h' => ?_⟩
      obtain ⟨Ech, hW, h1, h2, h3⟩ := h'
      have hp := act W pn xe Ech p1 p2 tk hW
      exact (pss_one (ps_expr (pos := p3) hp)).run pins s' σ H' D I ⟨h1, h2, h3⟩
    · exact ⟨hOk X.K g Q hds, fun cls d σ' H' h => hOk_many rfl h, h0 f, hcc, ht⟩
  · cases hc
end Fw

namespace Fw
open PySem L2 PyProof.Rows

/-! ### a def's end: what it has made and does not hand out is forgotten -/
section
variable {g : GW}
mutual
theorem Rep.cut {m l : List Addr} {H : Hp} : ∀ (t : T) {v : V}, noBx m.length t = true → Rep g (m ++ l) H t v → Rep g m H t v
  | .non, v, _, h => by simpa only [Rep] using h
  | .bl b, v, _, h => by simpa only [Rep] using h
  | .int i, v, _, h => by simpa only [Rep] using h
  | .str s, v, _, h => by simpa only [Rep] using h
  | .fn f, v, _, h => by simpa only [Rep] using h
  | .box n, v, hn, h => by
    simp only [Rep] at h ⊢
    simp only [noBx, decide_eq_true_eq] at hn
    obtain ⟨a, h1, h2⟩ := h
    rw [List.getElem?_append_left hn] at h1
    exact ⟨a, h1, h2⟩
  | .scr ns, v, _, h => by
    simp only [Rep] at h ⊢
    obtain ⟨a, h1, h2⟩ := h
    refine ⟨a, h1, ?_⟩
    rcases h2 with ⟨q, r⟩ | h2
    · exact .inl ⟨fun z => q (List.mem_append_left _ z), r⟩
    · exact .inr h2
  | .tup ts, v, hn, h => by
    simp only [Rep] at h ⊢
    simp only [noBx] at hn
    obtain ⟨a, vs, h1, h2, h3⟩ := h
    refine ⟨a, vs, h1, ?_, RepL.cut ts hn h3⟩
    rcases h2 with ⟨q, r⟩ | h2
    · exact .inl ⟨fun z => q (List.mem_append_left _ z), r⟩
    · exact .inr h2
  | .lst ts, v, hn, h => by
    simp only [Rep] at h ⊢
    simp only [noBx] at hn
    obtain ⟨a, vs, h1, h2, h3, h4, h5⟩ := h
    exact ⟨a, vs, h1, fun z => h2 (List.mem_append_left _ z), h3, h4, RepL.cut ts hn h5⟩
theorem RepL.cut {m l : List Addr} {H : Hp} : ∀ (ts : List T) {vs : List V}, noBxL m.length ts = true → RepL g (m ++ l) H ts vs → RepL g m H ts vs
  | [], vs, _, h => by simpa only [RepL] using h
  | t :: ts, vs, hn, h => by
    simp only [RepL] at h ⊢
    simp only [noBxL, Bool.and_eq_true] at hn
    obtain ⟨v, r, h1, h2, h3⟩ := h
    exact ⟨v, r, h1, Rep.cut t hn.1 h2, RepL.cut ts hn.2 h3⟩
end
theorem ObR.cut {m l : List Addr} {H : Hp} {ob : Ob} {a : Addr} (hn : noBxO m.length ob = true) (h : ObR g (m ++ l) H ob a) : ObR g m H ob a := by
  cases ob with
  | lst k => obtain ⟨vs, e, r⟩ := h; exact ⟨vs, e, RepL.cut k hn r⟩
  | _ => exact h.elim
theorem SRep.cut {m l : List Addr} {H : Hp} {S : Sto} (sr : SRep g (m ++ l) H S) (hn : (S.take m.length).all (noBxO m.length) = true) (hl : m.length ≤ S.length) : SRep g m H (S.take m.length) := by
  refine ⟨by simp [hl], ?_, fun n ob a h1 h2 => ?_, fun a ha => ?_, sr.tab⟩
  · exact (List.nodup_append.mp sr.nd).1
  · have hlt : n < m.length := (List.getElem?_eq_some_iff.mp h2).1
    rw [List.getElem?_take_of_lt hlt] at h1
    have z := sr.at_ n ob a h1 (by rw [List.getElem?_append_left hlt]; exact h2)
    refine z.cut ?_
    refine List.all_eq_true.mp hn ob (List.mem_of_getElem? (i := n) ?_)
    rw [List.getElem?_take_of_lt hlt]; exact h1
  · obtain ⟨z1, z2⟩ := sr.fbs a ha
    exact ⟨z1, fun z => z2 (List.mem_append_left _ z)⟩
theorem Ext.cut {m l : List Addr} {H H' : Hp} (x : Ext m H (m ++ l) H') : Ext m H m H' := ⟨⟨[], by simp, by simp⟩, x.keepN, x.there⟩

theorem fin1_ok {m : List Addr} {H : Hp} {Q : VK} {E : XK} {t : T} {S' : Sto} {b : Nat} (hb : m.length = b) (G : GoodC g m H Q E (fin1 b t S')) : GoodC g m H Q E (.ok t S') := by
  subst hb
  intro v m' H' x sr r
  unfold fin1 at G
  split at G
  · exact G v m' H' x sr r
  · rename_i hl
    split at G
    · rename_i hn
      simp only [Bool.and_eq_true] at hn
      obtain ⟨l, rfl, hf⟩ := x.grow
      refine G v m H' x.cut (sr.cut hn.2 (by omega)) ?_
      have h1 := hn.1
      revert h1
      unfold thaw
      split
      · rename_i n
        split
        · rename_i hbn
          split
          · rename_i k hk
            intro h1
            simp only [Rep] at r
            obtain ⟨a, e1, rfl⟩ := r
            obtain ⟨vs, q1, rl⟩ := sr.at_ n _ a hk e1
            simp only [noBx] at h1
            simp only [Rep]
            refine ⟨a, vs, rfl, fun z => ?_, fun z => ?_, q1, RepL.cut k h1 rl⟩
            · obtain ⟨i, hi, ei⟩ := List.mem_iff_getElem.mp z
              have e2 : (m ++ l)[i]? = some a := by
                rw [List.getElem?_append_left hi, List.getElem?_eq_getElem hi, ei]
              have := nd_ix sr.nd e1 e2
              omega
            · exact (sr.fbs a z).2 (List.mem_of_getElem? e1)
          · intro h1
            exact Rep.cut _ h1 r
        · intro h1
          exact Rep.cut _ h1 r
      · intro h1
        exact Rep.cut _ h1 r
    · exact G v m' H' x sr r
theorem finE_ok {m : List Addr} {H : Hp} {Q : VK} {E : XK} {c : Nat} {p : Option T} {S' : Sto} {b : Nat} (hb : m.length = b) (G : GoodC g m H Q E (finE b c p S')) : GoodC g m H Q E (.ex c p S') := by
  subst hb
  intro cls d m' H' x sr r
  unfold finE at G
  split at G
  · exact G cls d m' H' x sr r
  · rename_i hl
    split at G
    · rename_i hn
      obtain ⟨l, rfl, hf⟩ := x.grow
      exact G cls d m H' x.cut (sr.cut hn (by omega)) r
    · exact G cls d m' H' x sr r

/-- what a body is to reach, from what the def is to reach -/
theorem goodS_of {W : WX} {m : List Addr} {H : Hp} {Q : VK} {E : XK} {kp : Bool} {b : Nat} {o : OutS} {r : Out} (hb : m.length = b) (hW : ∀ cls d σ H', E cls d H' → W cls d σ H') (e : fin kp b (some o) = some r) (G : GoodC g m H Q E r) :
    GoodS g W m H { nx := fun _ H' => Q .non H', rt := Q } o := by
  cases o with
  | rt t S =>
    simp only [fin, Option.some.injEq] at e
    subst e
    cases kp with
    | true => exact G
    | false => exact fin1_ok hb G
  | nx ρ S =>
    simp only [fin, Option.some.injEq] at e
    subst e
    intro σ m' H' x rs
    cases kp with
    | true => exact G .non m' H' x rs.sto Rep.non_
    | false => exact fin1_ok hb G .non m' H' x rs.sto Rep.non_
  | ex c p ρ S =>
    simp only [fin, Option.some.injEq] at e
    subst e
    intro cls d σ m' H' x rs xr
    refine hW cls d σ H' ?_
    cases kp with
    | true => exact G cls d m' H' x rs.sto xr
    | false => exact finE_ok hb G cls d m' H' x rs.sto xr
  | bk ρ S => cases e
  | ct ρ S => cases e
end

/-! ### the defs of a text -/
structure DI where
  x : Str
  st : Stmt
  N : List Str
  ps : List Str
  fd : FD
  lam : Bool := false
/-- a def that calls a lambda and tells how it ended: its parameter, its except clauses, its last word -/
structure LI where
  x : Str
  st : Stmt
  a : Str
  hds : List (Nat × Str)
  r : Str
structure LW where
  ds : List DI
  ls : List LI := []
  cn : List Str
  en : List Str
  blt : List Str
  prg : Prg
def LW.gm (L : LW) (d : DI) : Gm := { N := d.N, sc := defScope d.st, fnT := fun _ => true, fname := fun f => (L.ds[f]?).map (·.x), fnameL := fun _ => none, lv := false, lamN := fun j => if d.lam then (L.ls[j]?).map (·.x) else none, nmL := fun f => (L.ds[f]?).map (·.x), cname := fun c => L.cn[c]?, ename := fun c => L.en[c]?, blt := L.blt }
def scB (N P : List Str) (sc : Scope) : Bool :=
  decide (sc.kind = .function) && !sc.isCoroutine && !sc.isGenerator && decide N.Nodup && decide (N.take P.length = P) && P.all (fun x => decide (sc.names.lookup x = some .local) || decide (sc.names.lookup x = some .cell)) && sc.names.all (fun y => !decide (y.2 = .free))
theorem scB_ok {N P : List Str} {sc : Scope} (h : scB N P sc = true) : FnScope N P sc := by
  unfold scB at h
  simp only [Bool.and_eq_true, Bool.not_eq_true', decide_eq_true_eq, List.all_eq_true, Bool.or_eq_true, decide_eq_false_iff_not] at h
  obtain ⟨⟨⟨⟨⟨⟨h1, h2⟩, h3⟩, h4⟩, h5⟩, h6⟩, h7⟩ := h
  exact ⟨h1, h2, h3, h4, h5, h6, h7⟩
def LW.okD (L : LW) (d : DI) : Bool := scB d.N d.ps (defScope d.st) && (decide (d.ps.length = d.fd.np) && (decide (d.N.length = d.fd.ns) && chkB (L.gm d) d.fd.body (defBody d.st)))

def LW.okL (L : LW) (li : LI) : Bool := scB [li.a] [li.a] (defScope li.st) && (dbg li.a && chkLi (fun c => L.en[c]?) (defScope li.st) li.a li.hds li.r (defBody li.st))

/-- what the top has left of the text -/
structure LF (L : LW) (K : PySem.W.Frag) (mg : Str → Option Value) where
  g : GW
  fdOf : Nat → FuncData
  hK : g.K = K
  fns : ∀ f d, L.ds[f]? = some d → L2.Fun K d.x d.x d.st (g.fa f) (fdOf f) ∧ mg d.x = some (.ref (g.fa f)) ∧ Binds K (fdOf f) d.ps []
  blt : ∀ x, x ∈ L.blt → mg x = none
  cst : ∀ c x, L.cn[c]? = some x → ∃ u v, mg x = some u ∧ L2.RelV v u ∧ ∀ fb m H, Rep (g.w fb) m H (L.prg.cv c) v
  exc : ∀ c x, L.en[c]? = some x → ∃ (B newId initId : String) (bmB : List Value), ExcBaseFacts B newId initId bmB ∧ PySem.W.excIn K (g.ea c) bmB newId = true ∧ mg x = some (.ref (g.ea c)) ∧ PySem.W.keepIn K (.ref (g.ea c)) = true ∧
    PySem.W.subIn K (.ref (g.ea c)) (.type "BaseException") = some true ∧ PySem.W.typeIn K (.ref (g.ea c)) = some (.type "type")
  cs : List (Addr × Addr)
  lfn : ∀ j li, L.ls[j]? = some li → ∃ g0 fd hs, L2.Fun K li.x li.x li.st g0 fd ∧ mg li.x = some (.ref g0) ∧ Binds K fd [li.a] [] ∧ L.prg.lam j = some (hs, .str li.r) ∧ ∀ p ∈ hs, ∃ s, p.2 = .str s ∧ ∀ (Q : VK) d H, Q (.str s) H → hOk K g Q li.hds (.ref (g.ea p.1)) d H
  tab : ∀ f d, L.ds[f]? = some d → d.lam = true → ∃ c P, (fdOf f).code = .ref c ∧ (c, P) ∈ cs ∧ (P, (d.x ++ ".<locals>.") ++ "<lambda>") ∈ g.T ∧ ∀ p ∈ g.T, p.1 = P → p.2 = (d.x ++ ".<locals>.") ++ "<lambda>"

theorem run_len {P : Prg} {n f : Nat} {ts : List T} {S : Sto} {o : Out} {fd : FD} (h : run P n f ts S = some o) (hf : P.tab f = some fd) : ts.length = fd.np := by
  cases n with
  | zero => cases h
  | succ n =>
    rw [run_eq] at h
    simp only [body1, hf] at h
    split at h
    · rename_i q; simpa using q
    · cases h
theorem run_tab {P : Prg} {n f : Nat} {ts : List T} {S : Sto} {o : Out} (h : run P n f ts S = some o) : ∃ fd, P.tab f = some fd := by
  cases n with
  | zero => cases h
  | succ n =>
    rw [run_eq] at h
    simp only [body1] at h
    split at h
    · rename_i fd q; exact ⟨fd, q⟩
    · cases h

/-- what is known of a def that calls lambdas, over any context -/
theorem lamOk_of {X : Cx} {g : GW} {E : EV} {nmL : Nat → Option Str} {j : Nat} {li : LI} {en : Nat → Option Str} {g0 c P0 : Addr} {k : Nat} {q : Str} {fd : FuncData} {hs : List (Nat × T)} (hq : X.env.qual = q) (Fl : L2.Fun X.K li.x li.x li.st g0 fd) (hmg : X.mg li.x = some (.ref g0)) (hbl : Binds X.K fd [li.a] []) (hlp : E.lam j = some (hs, .str li.r))
    (hx : ∀ p ∈ hs, ∃ s, p.2 = .str s ∧ ∀ (Q : VK) d H, Q (.str s) H → hOk X.K g Q li.hds (.ref (g.ea p.1)) d H) (okl : (scB [li.a] [li.a] (defScope li.st) && (dbg li.a && chkLi en (defScope li.st) li.a li.hds li.r (defBody li.st))) = true)
    (hm : ∀ c x, en c = some x → X.mg x = some (.ref (g.ea c))) (TB : LamX.TabB X.base X.mg c P0) (hcode : X.env.code = .ref c) (hT : (P0, q ++ "<lambda>") ∈ g.T) (hu : ∀ p ∈ g.T, p.1 = P0 → p.2 = q ++ "<lambda>") (hr : Room (k + 2) X.A)
    (hf : ∀ f2, (nmL f2).isSome = true → ∃ fd ps, FnOk X.prog X.w X.K X.mg X.base (L2.CX X.prog X.w) k (g.fa f2) fd ps (spF g E.callL f2 ps.length) ∧ PySem.W.keepIn X.K (.ref (g.fa f2)) = true ∧ Binds X.K fd ps [] ∧ (∀ ts S o, E.callL f2 ts S = some o → ts.length = ps.length) ∧ ∀ x2, nmL f2 = some x2 → X.mg x2 = some (.ref (g.fa f2)))
    (hfv : ∀ f2 ts S o, E.callL f2 ts S = some o → (nmL f2).isSome = true) : LamOk X g E nmL j li.x := by
  subst hq
  obtain ⟨oc1, od1, kV1, doc1, pm1, an1, cdv1, ct1, osl1, rfl, lk1, hcd1⟩ := Fl.ex
  simp only [Bool.and_eq_true, dbg, Bool.not_eq_true'] at okl
  obtain ⟨l1, ⟨l2, l3⟩, l4⟩ := okl
  have Sl := scB_ok l1
  have hva : Vis (defScope li.st) li.a := by
    rcases Sl.par _ List.mem_cons_self with z | z
    · exact .inl z
    · exact .inr (.inl z)
  exact .mk hlp hmg Fl.kp lk1 hcd1 hbl Sl rfl hva l2 l3 (gives l4 hm fun _ => rfl) TB hcode hT hu hr hx hf hfv

theorem fn_all {L : LW} {P : Program} {w : World} {K : PySem.W.Frag} {mg : Str → Option Value} {base : Heap} (F : LF L K mg) (ht : ∀ f, L.prg.tab f = (L.ds[f]?).map (·.fd)) (hc : L.ds.all L.okD = true) (hcl : L.ls.all L.okL = true) (hB : ∀ p ∈ F.cs, LamX.TabB base mg p.1 p.2) :
    ∀ n n', n' ≤ n → ∀ f d, L.ds[f]? = some d → FnOk P w K mg base (L2.CX P w) n' (F.g.fa f) (F.fdOf f) d.ps (spF F.g (run L.prg n') f d.ps.length) := by
  have none0 : ∀ f d, L.ds[f]? = some d → FnOk P w K mg base (L2.CX P w) 0 (F.g.fa f) (F.fdOf f) d.ps (spF F.g (run L.prg 0) f d.ps.length) := fun f d hd =>
    ⟨fun vs H Q E h => h.1, fun A outer s H args us vs Q E _ _ _ _ h => by
      obtain ⟨_, fb, m, S, ts, o, _, _, e, _⟩ := h
      cases e⟩
  intro n
  induction n with
  | zero =>
    intro n' hn f d hd
    obtain rfl : n' = 0 := by omega
    exact none0 f d hd
  | succ n ih0 =>
    intro n' hn f d hd
    by_cases hle : n' ≤ n
    · exact ih0 n' hle f d hd
    obtain rfl : n' = n + 1 := by omega
    have ih := ih0 n (Nat.le_refl _)
    obtain ⟨Fu, hm, hb⟩ := F.fns f d hd
    have ok := List.all_eq_true.mp hc d (List.mem_of_getElem? hd)
    simp only [LW.okD, Bool.and_eq_true, decide_eq_true_eq] at ok
    obtain ⟨o1, o2, o3, o4⟩ := ok
    have S := scB_ok o1
    obtain ⟨oc0, od0, kV0, doc0, pm0, an0, cdv, ct0, osl0, efd, lk0, hcd0⟩ := Fu.ex
    have ecode : (F.fdOf f).code = cdv := by rw [efd]
    rw [efd] at lk0 ⊢
    refine fn_of lk0 hcd0 S (fun vs H Q E h => h.1) (fun A outer s H vs Q E hr h => ?_)
    obtain ⟨hl, fb, m, S0, ts, o, rp, sr, e, Gd⟩ := h
    have ln : ∀ f2 d2, L.ds[f2]? = some d2 → ∀ n2 ts S o, run L.prg n2 f2 ts S = some o → ts.length = d2.ps.length := fun f2 d2 hd2 n2 ts S o q => by
      have ok2 := List.all_eq_true.mp hc d2 (List.mem_of_getElem? hd2)
      simp only [LW.okD, Bool.and_eq_true, decide_eq_true_eq] at ok2
      rw [ok2.2.1]
      exact run_len q (by rw [ht, hd2]; rfl)
    have cok : ∀ f2 d2, L.ds[f2]? = some d2 → CallOk (cxOf (L2.CX P w) P w K mg base d.N d.x (defScope d.st) (F.g.fa f) cdv A outer s H E) F.g (run L.prg n) f2 := fun f2 d2 hd2 =>
      ⟨n, F.fdOf f2, d2.ps, ih f2 d2 hd2, hr, (F.fns f2 d2 hd2).1.kp, (F.fns f2 d2 hd2).2.2, ln f2 d2 hd2 n⟩
    have isd : ∀ {n2 f2 ts S o}, run L.prg n2 f2 ts S = some o → ∃ d2, L.ds[f2]? = some d2 := fun q => by
      obtain ⟨fd2, q2⟩ := run_tab q
      rw [ht, Option.map_eq_some_iff] at q2
      obtain ⟨d2, hd2, _⟩ := q2
      exact ⟨d2, hd2⟩
    have lam : ∀ j x, (L.gm d).lamN j = some x → (ev L.prg n).lam j ≠ none → LamOk (cxOf (L2.CX P w) P w K mg base d.N d.x (defScope d.st) (F.g.fa f) cdv A outer s H E) F.g (ev L.prg n) (L.gm d).nmL j x := by
      intro j x h hne
      simp only [LW.gm] at h
      split at h
      · rename_i hlam
        simp only [Option.map_eq_some_iff] at h
        obtain ⟨li, hli, rfl⟩ := h
        match n, hne, hr, ih0 with
        | 0, hne, _, _ => exact absurd rfl hne
        | 1, hne, _, _ => exact absurd rfl hne
        | k + 2, hne, hr, ih0 =>
          obtain ⟨g0, fd, hs, Fl, hmg, hbl, hlp, hx⟩ := F.lfn j li hli
          obtain ⟨c, P0, hcode, hcs, hT, hu⟩ := F.tab f d hd hlam
          refine lamOk_of (k := k) (q := d.x ++ ".<locals>.") rfl Fl hmg hbl hlp hx (List.all_eq_true.mp hcl li (List.mem_of_getElem? hli)) (fun c x h => ?_) (hB _ hcs) (show cdv = .ref c by rw [← ecode]; exact hcode) hT hu hr (fun f2 h2 => ?_) (fun f2 ts S o q => ?_)
          · obtain ⟨_, _, _, _, _, _, h3, _⟩ := F.exc c x h
            exact h3
          · cases hd2 : L.ds[f2]? with
            | none => simp [LW.gm, hd2] at h2
            | some d2 =>
              refine ⟨F.fdOf f2, d2.ps, ih0 k (by omega) f2 d2 hd2, (F.fns f2 d2 hd2).1.kp, (F.fns f2 d2 hd2).2.2, ln f2 d2 hd2 k, fun x2 h3 => ?_⟩
              simp only [LW.gm, hd2, Option.map_some, Option.some.injEq] at h3
              subst h3
              exact (F.fns f2 d2 hd2).2.1
          · obtain ⟨d2, hd2⟩ := isd (n2 := k) q
            simp [LW.gm, hd2]
      · cases h
    have so : SOk (L.gm d) F.g (ev L.prg n) (fun cls d _ H => E cls d H) (cxOf (L2.CX P w) P w K mg base d.N d.x (defScope d.st) (F.g.fa f) cdv A outer s H E) := by
      refine ⟨⟨rfl, S.nd, rfl, F.hK.symm, rfl, fun _ _ => rfl, takes_of rfl rfl rfl rfl, hr.units, F.blt, fun f2 x2 h2 => ?_, fun _ _ z => (by cases z), fun _ f2 ts S o q => ?_, lam, fun z => (by cases z), F.cst⟩, passes_of rfl, S.kind, fun c x h => ?_⟩
      · simp only [LW.gm, Option.map_eq_some_iff] at h2
        obtain ⟨d2, hd2, rfl⟩ := h2
        exact ⟨cok f2 d2 hd2, (F.fns f2 d2 hd2).2.1⟩
      · obtain ⟨d2, hd2⟩ := isd (n2 := n) q
        exact cok f2 d2 hd2
      · obtain ⟨B, n1, n2, bm, h1, h2, h3, h4, h5, h6⟩ := F.exc c x h
        exact ⟨B, n1, n2, bm, h1, h2, h3, h4, raises_own h5 h6⟩
    refine ⟨_, (soundS d.fd.body).b _ _ _ so (defBody d.st) o4, ?_⟩
    -- its reading
    have hf : L.prg.tab f = some d.fd := by rw [ht, hd]; rfl
    have hts : ts.length = d.fd.np := run_len e hf
    rw [run_eq] at e
    simp only [body1, hf, hts, beq_self_eq_true, if_true] at e
    cases evq : evS (ev L.prg n) d.fd.body (init d.fd ts) S0 with
    | none => rw [evq] at e; cases e
    | some o' =>
      rw [evq] at e
      refine ⟨fb, m, init d.fd ts, S0, o', ⟨⟨?_, fun i t q => ?_⟩, sr⟩, evq, goodS_of sr.len (fun _ _ _ _ z => z) e Gd⟩
      · have := rp.length
        simp only [L2.start, init, List.length_append, List.length_map, List.length_replicate]
        omega
      · have hl2 := rp.length
        unfold init at q
        by_cases hi : i < ts.length
        · rw [List.getElem?_append_left (by simpa using hi), List.getElem?_map] at q
          simp only [Option.map_eq_some_iff, Option.some.injEq] at q
          obtain ⟨t', q1, rfl⟩ := q
          obtain ⟨v, e1, e2⟩ := rp.get q1
          refine ⟨v, ?_, e2⟩
          unfold L2.start
          rw [List.getElem?_append_left (by simpa [← hl2] using hi), List.getElem?_map, e1]
          rfl
        · rw [List.getElem?_append_right (by simpa using hi)] at q
          have := List.mem_of_getElem? q
          simp only [List.mem_replicate, reduceCtorEq, and_false] at this

/-- the law's own promise -/
def spLaw (K : PySem.W.Frag) (T : List (Addr × Str)) : Sp := fun vs H Q _ => ∃ (a : Addr) (ns : List Int), vs = [.ref a] ∧ SqL K H a (ns.map V.int) ∧ ns.length ≤ 63 ∧ LamX.Tabs T H ∧ ∀ H', Q (.bl true) H'
theorem law_ok {L : LW} {P : Program} {w : World} {K : PySem.W.Frag} {mg : Str → Option Value} {base : Heap} (F : LF L K mg) (ht : ∀ f, L.prg.tab f = (L.ds[f]?).map (·.fd)) (hc : L.ds.all L.okD = true) (hcl : L.ls.all L.okL = true) (hB : ∀ p ∈ F.cs, LamX.TabB base mg p.1 p.2) (n f : Nat) (d : DI) (hd : L.ds[f]? = some d) (h1 : d.ps.length = 1)
    (hrun : ∀ ns : List Int, ns.length ≤ 63 → ∃ S, run L.prg n f [.scr ns] [] = some (.ok (.bl true) S)) : FnOk P w K mg base (L2.CX P w) n (F.g.fa f) (F.fdOf f) d.ps (spLaw K F.g.T) := by
  refine (fn_all F ht hc hcl hB n n (Nat.le_refl _) f d hd).imp fun vs H Q E h => ?_
  obtain ⟨a, ns, rfl, hS, hlen, hT, k⟩ := h
  obtain ⟨S, hr⟩ := hrun ns hlen
  refine ⟨by rw [h1]; rfl, [], [], [], [.scr ns], .ok (.bl true) S, RepL.cons ?_ RepL.nil, ⟨rfl, by simp, fun n ob a h => by simp at h, fun a h => by simp [GW.w] at h, hT⟩, hr, fun v m' H' _ _ r => ?_⟩
  · simp only [Rep]
    refine ⟨a, rfl, ?_⟩
    rw [← F.hK] at hS
    rcases hS with hS | hS
    · exact .inl ⟨by simp, by simp [GW.w], hS⟩
    · exact .inr hS
  · cases RepD.bl (RepD.of r)
    exact k H'
end Fw

namespace Fw
open PySem L2 PyProof.Rows

/-! ## the small language's turns, for use in plain Lean -/
section
variable {E : EV} {ρ : Rho} {S : Sto}
@[simp] theorem wE_lit {v : T} : evE E (.lit v) ρ S = some (.ok v S) := id rfl
@[simp] theorem wE_var {i : Nat} : evE E (.var i) ρ S = (match ρ[i]? with | some (some t) => some (.ok t S) | _ => none) := id rfl
@[simp] theorem wE_cst {c : Nat} : evE E (.cst c) ρ S = some (.ok (E.cv c) S) := id rfl
@[simp] theorem wE_nil : evE E .nil ρ S = some (.ok (.tup []) S) := id rfl
@[simp] theorem wE_cons {a b : IE} : evE E (.cons a b) ρ S = (match (evE E a ρ S) with | some (.ok x S1) => ((match (evE E b ρ S1) with | some (.ok y S2) => (tups y fun l => some (.ok (.tup (x :: l)) S2)) | some (.ex c_ p_ S_) => some (.ex c_ p_ S_) | none => none)) | some (.ex c_ p_ S_) => some (.ex c_ p_ S_) | none => none) := id rfl
@[simp] theorem wE_tup {a : IE} : evE E (.tup a) ρ S = (match (evE E a ρ S) with | some (.ok x S1) => (tups x fun l => if l.length ≤ line then some (.ok (.tup l) S1) else none) | some (.ex c_ p_ S_) => some (.ex c_ p_ S_) | none => none) := id rfl
@[simp] theorem wE_lst {bx : Bool} {a : IE} : evE E (.lst bx a) ρ S = (match (evE E a ρ S) with | some (.ok x S1) => (tups x fun l => if l.length ≤ line then some (newL bx (.lst l) S1) else none) | some (.ex c_ p_ S_) => some (.ex c_ p_ S_) | none => none) := id rfl
@[simp] theorem wE_op {bx : Bool} {o : Operator} {a b : IE} : evE E (.op bx o a b) ρ S = (match (evE E a ρ S) with | some (.ok x S1) => ((match (evE E b ρ S1) with | some (.ok y S2) => (lift bx (bop o (drf S2 x) (drf S2 y)) S2) | some (.ex c_ p_ S_) => some (.ex c_ p_ S_) | none => none)) | some (.ex c_ p_ S_) => some (.ex c_ p_ S_) | none => none) := id rfl
@[simp] theorem wE_cmp {o : CmpOp} {a b : IE} : evE E (.cmp o a b) ρ S = (match (evE E a ρ S) with | some (.ok x S1) => ((match (evE E b ρ S1) with | some (.ok y S2) => (liftB (cop S2 o x y) S2) | some (.ex c_ p_ S_) => some (.ex c_ p_ S_) | none => none)) | some (.ex c_ p_ S_) => some (.ex c_ p_ S_) | none => none) := id rfl
@[simp] theorem wE_chn {o o' : CmpOp} {a b c : IE} : evE E (.chn o o' a b c) ρ S = (match (evE E a ρ S) with | some (.ok x S1) => ((match (evE E b ρ S1) with | some (.ok y S2) => ((match cop S2 o x y with | some true => (match (evE E c ρ S2) with | some (.ok z S3) => (liftB (cop S3 o' y z) S3) | some (.ex c_ p_ S_) => some (.ex c_ p_ S_) | none => none) | some false => some (.ok (.bl false) S2) | none => none)) | some (.ex c_ p_ S_) => some (.ex c_ p_ S_) | none => none)) | some (.ex c_ p_ S_) => some (.ex c_ p_ S_) | none => none) := id rfl
@[simp] theorem wE_neg {a : IE} : evE E (.neg a) ρ S = (match (evE E a ρ S) with | some (.ok x S1) => ((match negT x with | some t => some (.ok t S1) | none => none)) | some (.ex c_ p_ S_) => some (.ex c_ p_ S_) | none => none) := id rfl
@[simp] theorem wE_not {a : IE} : evE E (.not a) ρ S = (match (evE E a ρ S) with | some (.ok x S1) => ((match truthy S1 x with | some b => some (.ok (.bl (!b)) S1) | none => none)) | some (.ex c_ p_ S_) => some (.ex c_ p_ S_) | none => none) := id rfl
@[simp] theorem wE_and {a b : IE} : evE E (.and a b) ρ S = (match (evE E a ρ S) with | some (.ok x S1) => ((match truthy S1 x with | some true => evE E b ρ S1 | some false => some (.ok x S1) | none => none)) | some (.ex c_ p_ S_) => some (.ex c_ p_ S_) | none => none) := id rfl
@[simp] theorem wE_or {a b : IE} : evE E (.or a b) ρ S = (match (evE E a ρ S) with | some (.ok x S1) => ((match truthy S1 x with | some true => some (.ok x S1) | some false => evE E b ρ S1 | none => none)) | some (.ex c_ p_ S_) => some (.ex c_ p_ S_) | none => none) := id rfl
@[simp] theorem wE_ite {c a b : IE} : evE E (.ite c a b) ρ S = (match (evE E c ρ S) with | some (.ok x S1) => ((match truthy S1 x with | some true => evE E a ρ S1 | some false => evE E b ρ S1 | none => none)) | some (.ex c_ p_ S_) => some (.ex c_ p_ S_) | none => none) := id rfl
@[simp] theorem wE_ix {a b : IE} : evE E (.ix a b) ρ S = (match (evE E a ρ S) with | some (.ok x S1) => ((match (evE E b ρ S1) with | some (.ok y S2) => (lift false (ixT S2 x y) S2) | some (.ex c_ p_ S_) => some (.ex c_ p_ S_) | none => none)) | some (.ex c_ p_ S_) => some (.ex c_ p_ S_) | none => none) := id rfl
@[simp] theorem wE_sl {bx : Bool} {a lo hi : IE} : evE E (.sl bx a lo hi) ρ S = (match (evE E a ρ S) with | some (.ok x S1) => ((match (evE E lo ρ S1) with | some (.ok l S2) => ((match part (isNil lo) l with | some i => (match (evE E hi ρ S2) with | some (.ok h S3) => ((match part (isNil hi) h with | some j => lift bx (slT S3 x i j) S3 | none => none)) | some (.ex c_ p_ S_) => some (.ex c_ p_ S_) | none => none) | none => none)) | some (.ex c_ p_ S_) => some (.ex c_ p_ S_) | none => none)) | some (.ex c_ p_ S_) => some (.ex c_ p_ S_) | none => none) := id rfl
@[simp] theorem wE_rev {bx : Bool} {a : IE} : evE E (.rev bx a) ρ S = (match (evE E a ρ S) with | some (.ok x S1) => (lift bx (revT S1 x) S1) | some (.ex c_ p_ S_) => some (.ex c_ p_ S_) | none => none) := id rfl
@[simp] theorem wE_call {f : Nat} {es : IE} : evE E (.call f es) ρ S = (match (evE E es ρ S) with | some (.ok x S1) => (tups x fun l => E.call f l S1) | some (.ex c_ p_ S_) => some (.ex c_ p_ S_) | none => none) := id rfl
@[simp] theorem wE_callL {f : Nat} {es : IE} : evE E (.callL f es) ρ S = (match (evE E es ρ S) with | some (.ok x S1) => (tups x fun l => E.callL f l S1) | some (.ex c_ p_ S_) => some (.ex c_ p_ S_) | none => none) := id rfl
@[simp] theorem wE_callv {i : Nat} {es : IE} : evE E (.callv i es) ρ S = (match ρ[i]? with | some (some (.fn f)) => (match evE E es ρ S with | some (.ok (.tup l) S1) => E.call f l S1 | _ => none) | _ => none) := id rfl
@[simp] theorem wE_callvL {i : Nat} {es : IE} : evE E (.callvL i es) ρ S = (match ρ[i]? with | some (some (.fn f)) => (match evE E es ρ S with | some (.ok (.tup l) S1) => E.callL f l S1 | _ => none) | _ => none) := id rfl
@[simp] theorem wE_lam {f : Nat} {e : IE} : evE E (.lam f e) ρ S = (match E.lam f with
    | some (hs, r) => (match evE E e ρ S with
      | some (.ok _ S') => some (.ok r S')
      | some (.ex c _ S') => (match pick c hs with | some t => some (.ok t S') | none => none)
      | none => none)
    | none => none) := id rfl
@[simp] theorem wE_blt {bx : Bool} {b : Bl} {es : IE} : evE E (.blt bx b es) ρ S = (match (evE E es ρ S) with | some (.ok x S1) => (tups x fun l => lift bx (bltT S1 b l) S1) | some (.ex c_ p_ S_) => some (.ex c_ p_ S_) | none => none) := id rfl
@[simp] theorem wE_isi {a : IE} {ty : String} : evE E (.isi a ty) ρ S = (match (evE E a ρ S) with | some (.ok x S1) => (liftB (isiT S1 x ty) S1) | some (.ex c_ p_ S_) => some (.ex c_ p_ S_) | none => none) := id rfl
@[simp] theorem wE_mt0 {m : Mt} {o : IE} : evE E (.mt0 m o) ρ S = (match (evE E o ρ S) with | some (.ok x S1) => (lift false (mt0T m x) S1) | some (.ex c_ p_ S_) => some (.ex c_ p_ S_) | none => none) := id rfl
@[simp] theorem wE_mt1 {m : Mt} {o e : IE} : evE E (.mt1 m o e) ρ S = (match (evE E o ρ S) with | some (.ok x S1) => (strT x fun a => (match (evE E e ρ S1) with | some (.ok y S2) => (lift false (mt1T S2 m a y) S2) | some (.ex c_ p_ S_) => some (.ex c_ p_ S_) | none => none)) | some (.ex c_ p_ S_) => some (.ex c_ p_ S_) | none => none) := id rfl
/-- one turn of a comprehension -/
def lcT (E : EV) (elt : IE) (tg : Tg) (cnd : IE) (ρ : Rho) : T → Sto → Option (Option T × Sto) := fun t S => match bindT tg t ρ with
        | some ρ' => (match evE E cnd ρ' S with
          | some (.ok c S') => (match truthy S' c with
            | some true => (match evE E elt ρ' S' with | some (.ok y S'') => some (some y, S'') | _ => none)
            | some false => some (none, S')
            | none => none)
          | _ => none)
        | none => none
@[simp] theorem wE_lc {bx : Bool} {own : List Nat} {elt : IE} {tg : Tg} {src cnd : IE} : evE E (.lc bx own elt tg src cnd) ρ S = (match (evE E src ρ S) with | some (.ok x S1) => (tups x fun l => (match lcL (lcT E elt tg cnd (wipeR ρ own)) l [] S1 with | some (ys, S2) => some (newL bx (.lst ys) S2) | none => none)) | some (.ex c_ p_ S_) => some (.ex c_ p_ S_) | none => none) := id rfl
@[simp] theorem wE_sq {a : IE} : evE E (.sq a) ρ S = (match (evE E a ρ S) with | some (.ok x S1) => ((match seqT x with | some l => some (.ok (.tup l) S1) | none => none)) | some (.ex c_ p_ S_) => some (.ex c_ p_ S_) | none => none) := id rfl
@[simp] theorem wE_rg1 {a : IE} : evE E (.rg1 a) ρ S = (match (evE E a ρ S) with | some (.ok x S1) => ((match x with | .int j => if okR j then some (.ok (.tup (rngT 0 j.toNat)) S1) else none | _ => none)) | some (.ex c_ p_ S_) => some (.ex c_ p_ S_) | none => none) := id rfl
@[simp] theorem wE_rg2 {a b : IE} : evE E (.rg2 a b) ρ S = (match (evE E a ρ S) with | some (.ok x S1) => ((match (evE E b ρ S1) with | some (.ok y S2) => ((match x, y with | .int i, .int j => if okR i && okR j then some (.ok (.tup (rngT i (j - i).toNat)) S2) else none | _, _ => none)) | some (.ex c_ p_ S_) => some (.ex c_ p_ S_) | none => none)) | some (.ex c_ p_ S_) => some (.ex c_ p_ S_) | none => none) := id rfl
@[simp] theorem wE_zp {a b : IE} : evE E (.zp a b) ρ S = (match (evE E a ρ S) with | some (.ok x S1) => ((match (evE E b ρ S1) with | some (.ok y S2) => ((match x, y with | .tup xs, .tup ys => some (.ok (.tup (zipT xs ys)) S2) | .lst xs, .lst ys => some (.ok (.tup (zipT xs ys)) S2) | _, _ => none)) | some (.ex c_ p_ S_) => some (.ex c_ p_ S_) | none => none)) | some (.ex c_ p_ S_) => some (.ex c_ p_ S_) | none => none) := id rfl
@[simp] theorem wE_en {a : IE} : evE E (.en a) ρ S = (match (evE E a ρ S) with | some (.ok x S1) => ((match x with | .lst l => some (.ok (.tup (enuT 0 l)) S1) | _ => none)) | some (.ex c_ p_ S_) => some (.ex c_ p_ S_) | none => none) := id rfl
@[simp] theorem wE_lrg {bx : Bool} {a b : IE} : evE E (.lrg bx a b) ρ S = (match (evE E a ρ S) with | some (.ok x S1) => ((match (evE E b ρ S1) with | some (.ok y S2) => ((match x, y with | .int i, .int j => if okR i && okR j && decide ((j - i).toNat ≤ line) then some (newL bx (.lst (rngT i (j - i).toNat)) S2) else none | _, _ => none)) | some (.ex c_ p_ S_) => some (.ex c_ p_ S_) | none => none)) | some (.ex c_ p_ S_) => some (.ex c_ p_ S_) | none => none) := id rfl
/-- one turn of a loop -/
def frT (E : EV) (tg : Tg) (b : IS) : T → Rho → Sto → ResS := fun t ρ S => match bindT tg t ρ with | some ρ' => evS E b ρ' S | none => none
@[simp] theorem wS_skip : evS E .skip ρ S = some (.nx ρ S) := id rfl
@[simp] theorem wS_seq {a b : IS} : evS E (.seq a b) ρ S = (match evS E a ρ S with | some (.nx ρ' S') => evS E b ρ' S' | r => r) := id rfl
@[simp] theorem wS_pass : evS E .pass ρ S = some (.nx ρ S) := id rfl
@[simp] theorem wS_brk : evS E .brk ρ S = some (.bk ρ S) := id rfl
@[simp] theorem wS_cnt : evS E .cnt ρ S = some (.ct ρ S) := id rfl
@[simp] theorem wS_ret {e : IE} : evS E (.ret e) ρ S = (match (evE E e ρ S) with | some (.ok t S') => (some (.rt t S')) | some (.ex c_ p_ S_) => some (.ex c_ p_ ρ S_) | none => none) := id rfl
@[simp] theorem wS_expr {e : IE} : evS E (.expr e) ρ S = (match (evE E e ρ S) with | some (.ok _ S') => (some (.nx ρ S')) | some (.ex c_ p_ S_) => some (.ex c_ p_ ρ S_) | none => none) := id rfl
@[simp] theorem wS_asg {tg : Tg} {e : IE} : evS E (.asg tg e) ρ S = (match (evE E e ρ S) with | some (.ok t S') => ((match bindT tg t ρ with | some ρ' => some (.nx ρ' S') | none => none)) | some (.ex c_ p_ S_) => some (.ex c_ p_ ρ S_) | none => none) := id rfl
@[simp] theorem wS_par2 {i j : Nat} {e : IE} : evS E (.par2 i j e) ρ S = (match (evE E e ρ S) with | some (.ok t S') => ((match t with | .tup [x, y] => some (.nx ((ρ.set i (some x)).set j (some y)) S') | _ => none)) | some (.ex c_ p_ S_) => some (.ex c_ p_ ρ S_) | none => none) := id rfl
@[simp] theorem wS_par3 {i j k : Nat} {e : IE} : evS E (.par3 i j k e) ρ S = (match (evE E e ρ S) with | some (.ok t S') => ((match t with | .tup [x, y, z] => some (.nx (((ρ.set i (some x)).set j (some y)).set k (some z)) S') | _ => none)) | some (.ex c_ p_ S_) => some (.ex c_ p_ ρ S_) | none => none) := id rfl
@[simp] theorem wS_sub {o i e : IE} : evS E (.sub o i e) ρ S = (match (evE E e ρ S) with | some (.ok t S1) => ((match (evE E o ρ S1) with | some (.ok x S2) => ((match (evE E i ρ S2) with | some (.ok y S3) => ((match wSub S3 x y t with | some S4 => some (.nx ρ S4) | none => none)) | some (.ex c_ p_ S_) => some (.ex c_ p_ ρ S_) | none => none)) | some (.ex c_ p_ S_) => some (.ex c_ p_ ρ S_) | none => none)) | some (.ex c_ p_ S_) => some (.ex c_ p_ ρ S_) | none => none) := id rfl
@[simp] theorem wS_app {o e : IE} : evS E (.app o e) ρ S = (match (evE E o ρ S) with | some (.ok x S1) => (if isLst S1 x then (match (evE E e ρ S1) with | some (.ok t S2) => (match wApp S2 x t with | some S3 => some (.nx ρ S3) | none => none) | some (.ex c_ p_ S_) => some (.ex c_ p_ ρ S_) | none => none) else none) | some (.ex c_ p_ S_) => some (.ex c_ p_ ρ S_) | none => none) := id rfl
@[simp] theorem wS_iff {c : IE} {a b : IS} : evS E (.iff c a b) ρ S = (match (evE E c ρ S) with | some (.ok x S1) => ((match truthy S1 x with | some true => evS E a ρ S1 | some false => evS E b ρ S1 | none => none)) | some (.ex c_ p_ S_) => some (.ex c_ p_ ρ S_) | none => none) := id rfl
@[simp] theorem wS_for {tg : Tg} {src : IE} {b : IS} : evS E (.for_ tg src b) ρ S = (match (evE E src ρ S) with | some (.ok x S1) => ((match x with | .tup l => forL (frT E tg b) l ρ S1 | _ => none)) | some (.ex c_ p_ S_) => some (.ex c_ p_ ρ S_) | none => none) := id rfl
@[simp] theorem wS_whl {c : IE} {b : IS} : evS E (.whl c b) ρ S = whlL (fun ρ S => evE E c ρ S) (fun ρ S => evS E b ρ S) E.wf ρ S := id rfl
@[simp] theorem wS_rs {c : Nat} : evS E (.rs c) ρ S = some (.ex c none ρ S) := id rfl
end

@[simp] theorem bnd_ok (t : T) (S : Sto) (k : T → Sto → Res) : bnd (some (.ok t S)) k = k t S := id rfl
@[simp] theorem bnd_ex (c : Nat) (p : Option T) (S : Sto) (k : T → Sto → Res) : bnd (some (.ex c p S)) k = some (.ex c p S) := id rfl
@[simp] theorem bndS_ok (t : T) (S : Sto) (ρ : Rho) (k : T → Sto → ResS) : bndS (some (.ok t S)) ρ k = k t S := id rfl
@[simp] theorem bndS_ex (c : Nat) (p : Option T) (S : Sto) (ρ : Rho) (k : T → Sto → ResS) : bndS (some (.ex c p S)) ρ k = some (.ex c p ρ S) := id rfl
@[simp] theorem tups_t (l : List T) (k : List T → Res) : tups (.tup l) k = k l := id rfl
@[simp] theorem strT_t (l : Str) (k : Str → Res) : strT (.str l) k = k l := id rfl
@[simp] theorem lift_f (t : T) (S : Sto) : lift false (some t) S = some (.ok t S) := by cases t <;> rfl
@[simp] theorem lift_tl (l : List T) (S : Sto) : lift true (some (.lst l)) S = some (.ok (.box S.length) (S ++ [.lst l])) := id rfl
@[simp] theorem newL_f (t : T) (S : Sto) : newL false t S = .ok t S := by cases t <;> rfl
@[simp] theorem newL_t (l : List T) (S : Sto) : newL true (.lst l) S = .ok (.box S.length) (S ++ [.lst l]) := id rfl
@[simp] theorem liftB_s (b : Bool) (S : Sto) : liftB (some b) S = some (.ok (.bl b) S) := id rfl
@[simp] theorem drf_non (S : Sto) : drf S .non = .non := id rfl
@[simp] theorem drf_bl (S : Sto) (i : Bool) : drf S (.bl i) = .bl i := id rfl
@[simp] theorem drf_int (S : Sto) (i : Int) : drf S (.int i) = .int i := id rfl
@[simp] theorem drf_str (S : Sto) (i : Str) : drf S (.str i) = .str i := id rfl
@[simp] theorem drf_tup (S : Sto) (i : List T) : drf S (.tup i) = .tup i := id rfl
@[simp] theorem drf_lst (S : Sto) (i : List T) : drf S (.lst i) = .lst i := id rfl
@[simp] theorem drf_scr (S : Sto) (i : List Int) : drf S (.scr i) = .scr i := id rfl
theorem drf_box {S : Sto} {n : Nat} {l : List T} (h : S[n]? = some (.lst l)) : drf S (.box n) = .lst l := by simp [drf, h]
@[simp] theorem tr_non (S : Sto) : truthy S .non = some false := id rfl
@[simp] theorem tr_bl (S : Sto) (i : Bool) : truthy S (.bl i) = some i := id rfl
@[simp] theorem tr_int (S : Sto) (i : Int) : truthy S (.int i) = some (i != 0) := id rfl
@[simp] theorem tr_tup (S : Sto) (i : List T) : truthy S (.tup i) = some (!i.isEmpty) := id rfl
@[simp] theorem tr_lst (S : Sto) (i : List T) : truthy S (.lst i) = some (!i.isEmpty) := id rfl
section
variable (S : Sto) (i j : Int)
@[simp] theorem co_lt : cop S .Lt (.int i) (.int j) = some (decide (i < j)) := id rfl
@[simp] theorem co_le : cop S .LtE (.int i) (.int j) = some (decide (i ≤ j)) := id rfl
@[simp] theorem co_gt : cop S .Gt (.int i) (.int j) = some (decide (j < i)) := id rfl
@[simp] theorem co_ge : cop S .GtE (.int i) (.int j) = some (decide (j ≤ i)) := id rfl
theorem shal_int (i j : Int) : shal (.int i) (.int j) = true := by simp [shal, PyData.depth]
@[simp] theorem co_eq : cop S .Eq (.int i) (.int j) = some (decide (i = j)) := by
  simp only [cop, drf_int, eqT, toD, shal_int, if_true]
  congr 1
@[simp] theorem co_ne : cop S .NotEq (.int i) (.int j) = some (decide (i ≠ j)) := by
  have := co_eq S i j
  simp only [cop] at this ⊢
  rw [this]
  simp
@[simp] theorem bo_add : bop .Add (.int i) (.int j) = some (.int (i + j)) := id rfl
@[simp] theorem bo_sub : bop .Sub (.int i) (.int j) = some (.int (i - j)) := id rfl
@[simp] theorem ne_int : negT (.int i) = some (.int (-i)) := id rfl
@[simp] theorem ne_bl (p : Bool) : negT (.bl p) = some (.int (-(if p = true then (1 : Int) else 0))) := id rfl
@[simp] theorem bl_int : bltT S .int [.int i] = some (.int i) := id rfl
@[simp] theorem bl_abs : bltT S .abs [.int i] = some (.int (if i < 0 then -i else i)) := id rfl
@[simp] theorem bl_max : bltT S .max [.int i, .int j] = some (.int (if j > i then j else i)) := id rfl
@[simp] theorem bl_min : bltT S .min [.int i, .int j] = some (.int (if j < i then j else i)) := id rfl
@[simp] theorem bl_lenT (l : List T) : bltT S .len [.tup l] = some (.int l.length) := id rfl
@[simp] theorem bl_lenL (l : List T) : bltT S .len [.lst l] = some (.int l.length) := id rfl
@[simp] theorem bl_lenR (l : List Int) : bltT S .len [.scr l] = some (.int l.length) := id rfl
@[simp] theorem bl_tupL (l : List T) : bltT S .tuple [.lst l] = some (.tup l) := id rfl
@[simp] theorem bl_tupT (l : List T) : bltT S .tuple [.tup l] = some (.tup l) := id rfl
@[simp] theorem bl_lstL (l : List T) : bltT S .list [.lst l] = some (.lst l) := id rfl
@[simp] theorem bl_lstT (l : List T) : bltT S .list [.tup l] = some (.lst l) := id rfl
@[simp] theorem bl_allL (l : List T) : bltT S .all [.lst l] = (match boolsOf l with | some l => some (.bl (l.all id)) | _ => none) := id rfl
@[simp] theorem ix_tup (l : List T) : ixT S (.tup l) (.int i) = atI l i := id rfl
@[simp] theorem ix_lst (l : List T) : ixT S (.lst l) (.int i) = atI l i := id rfl
@[simp] theorem sl_tup (l : List T) (a b : Option Int) : slT S (.tup l) a b = some (.tup (cutL l a b)) := id rfl
@[simp] theorem sl_lst (l : List T) (a b : Option Int) : slT S (.lst l) a b = some (.lst (cutL l a b)) := id rfl
@[simp] theorem rv_tup (l : List T) : revT S (.tup l) = some (.tup l.reverse) := id rfl
@[simp] theorem rv_lst (l : List T) : revT S (.lst l) = some (.lst l.reverse) := id rfl
@[simp] theorem isNil_nil : isNil .nil = true := id rfl
@[simp] theorem isNil_lit (t : T) : isNil (.lit t) = false := id rfl
@[simp] theorem isNil_var (t : Nat) : isNil (.var t) = false := id rfl
@[simp] theorem isNil_neg (a : IE) : isNil (.neg a) = false := id rfl
@[simp] theorem isNil_op (k : Bool) (o : Operator) (a b : IE) : isNil (.op k o a b) = false := id rfl
@[simp] theorem isNil_ix (a b : IE) : isNil (.ix a b) = false := id rfl
@[simp] theorem part_nil (t : T) : part true t = some none := id rfl
@[simp] theorem part_int : part false (.int i) = some (some i) := id rfl
@[simp] theorem seq_tup (l : List T) : seqT (.tup l) = some l := id rfl
@[simp] theorem seq_lst (l : List T) : seqT (.lst l) = some l := id rfl
end
theorem bl_tupB {S : Sto} {n : Nat} {l : List T} (h : S[n]? = some (.lst l)) : bltT S .tuple [.box n] = some (.tup l) := by simp [bltT, drf, h]
theorem bl_lenB {S : Sto} {n : Nat} {l : List T} (h : S[n]? = some (.lst l)) : bltT S .len [.box n] = some (.int l.length) := by simp [bltT, drf, h]
theorem ix_box {S : Sto} {i : Int} {n : Nat} {l : List T} (h : S[n]? = some (.lst l)) : ixT S (.box n) (.int i) = atI l i := by simp [ixT, drf, h]
theorem bo_mod {i j : Int} (h : 0 < j) : bop .Mod (.int i) (.int j) = some (.int (i % j)) := by simp [bop, h]
theorem bo_mod_s {i : Int} {j : Int} (h : (decide (0 < j)) = true) : bop .Mod (.int i) (.int j) = some (.int (i % j)) := by simp [bop, of_decide_eq_true h]
theorem bo_fdiv {i j : Int} (h : 0 < j) (h2 : j < 1073741824) : bop .FloorDiv (.int i) (.int j) = some (.int (i / j)) := by simp [bop, h, h2]
theorem bo_mulL {i j : Int} (h : small64 i = true) : bop .Mult (.int i) (.int j) = some (.int (i * j)) := by simp [bop, h]
theorem bo_mulR {i j : Int} (h : small64 j = true) : bop .Mult (.int i) (.int j) = some (.int (i * j)) := by simp [bop, h]
theorem bq_addT (a b : List T) : bop .Add (.tup a) (.tup b) = if a.length + b.length ≤ 16777216 then some (.tup (a ++ b)) else none := rfl
theorem bq_addL (a b : List T) : bop .Add (.lst a) (.lst b) = if a.length + b.length ≤ 16777216 then some (.lst (a ++ b)) else none := rfl
theorem bo_addT {a b : List T} (h : a.length + b.length ≤ line) : bop .Add (.tup a) (.tup b) = some (.tup (a ++ b)) := by simp [bop, h]
theorem bo_addL {a b : List T} (h : a.length + b.length ≤ line) : bop .Add (.lst a) (.lst b) = some (.lst (a ++ b)) := by simp [bop, h]
theorem atI_nat {α : Type} {l : List α} {r : Int} (h0 : 0 ≤ r) (h1 : r < l.length) : ∃ t, atI l r = some t ∧ t ∈ l := by
  have hlt : r.toNat < l.length := by omega
  refine ⟨l[r.toNat], ?_, List.getElem_mem hlt⟩
  simp [atI, ixN, h0, h1, List.getElem?_eq_getElem hlt]
@[simp] theorem atI_0 {α : Type} {x : α} {l : List α} : atI (x :: l) 0 = some x := by
  have : (0 : Int) < (l.length : Int) + 1 := by omega
  simp [atI, ixN, this]
@[simp] theorem atI_1 {α : Type} {x y : α} {l : List α} : atI (x :: y :: l) 1 = some y := by
  have : (1 : Int) < (l.length : Int) + 1 + 1 := by omega
  simp [atI, ixN, this]
@[simp] theorem atI_2 {α : Type} {x y z : α} {l : List α} : atI (x :: y :: z :: l) 2 = some z := by
  have : (2 : Int) < (l.length : Int) + 1 + 1 + 1 := by omega
  simp [atI, ixN, this]
theorem atI_k {α : Type} (l : List α) (k : Nat) (h : k < l.length) : atI l (k : Int) = l[k]? := by
  have h1 : (k : Int) < (l.length : Int) := by omega
  simp [atI, ixN, h1]

theorem run_succ0 (P : Prg) (n f : Nat) (ts : List T) (S : Sto) (fd : FD) (h : P.tab f = some fd) (hl : ts.length = fd.np) :
    run P (n + 1) f ts S = fin fd.keep S.length (evS (ev P n) fd.body (init fd ts) S) := by
  rw [run_eq]; simp [body1, h, hl]
/-- calls as they are, and not to be unfolded -/
noncomputable def evO (P : Prg) (n : Nat) : EV := Classical.choose (⟨ev P n, rfl⟩ : ∃ e, e = ev P n)
theorem evO_eq (P : Prg) (n : Nat) : evO P n = ev P n := Classical.choose_spec (⟨ev P n, rfl⟩ : ∃ e, e = ev P n)
noncomputable def runO (P : Prg) (n : Nat) : Nat → List T → Sto → Res := Classical.choose (⟨run P n, rfl⟩ : ∃ e, e = run P n)
theorem runO_eq (P : Prg) (n : Nat) : runO P n = run P n := Classical.choose_spec (⟨run P n, rfl⟩ : ∃ e, e = run P n)
theorem run_succ (P : Prg) (n f : Nat) (ts : List T) (S : Sto) (fd : FD) (h : P.tab f = some fd) (hl : ts.length = fd.np) :
    runO P (n + 1) f ts S = fin fd.keep S.length (evS (evO P n) fd.body (init fd ts) S) := by
  rw [runO_eq, evO_eq]; exact run_succ0 P n f ts S fd h hl
@[simp] theorem ev_call (P : Prg) (n : Nat) : (evO P n).call = runO P n := by rw [evO_eq, runO_eq]; rfl
@[simp] theorem ev_callL (P : Prg) (n : Nat) : (evO P (n + 2)).callL = runO P n := by rw [evO_eq, runO_eq]; rfl
@[simp] theorem ev_cv (P : Prg) (n : Nat) : (evO P n).cv = P.cv := by rw [evO_eq]; rfl
@[simp] theorem ev_lam (P : Prg) (n : Nat) : (evO P (n + 2)).lam = P.lam := by rw [evO_eq]; rfl
@[simp] theorem fin_rt (b : Nat) (t : T) (S : Sto) : fin false b (some (.rt t S)) = some (fin1 b t S) := id rfl
@[simp] theorem fin_rtk (b : Nat) (t : T) (S : Sto) : fin true b (some (.rt t S)) = some (.ok t S) := id rfl
@[simp] theorem fin_nx (b : Nat) (ρ : Rho) (S : Sto) : fin false b (some (.nx ρ S)) = some (fin1 b .non S) := id rfl
@[simp] theorem fin_ex (b c : Nat) (p : Option T) (ρ : Rho) (S : Sto) : fin false b (some (.ex c p ρ S)) = some (finE b c p S) := id rfl
theorem fin1_le {b : Nat} {t : T} {S : Sto} (h : S.length ≤ b) : fin1 b t S = .ok t S := by simp [fin1, h]
@[simp] theorem fin1_eq {t : T} {S : Sto} : fin1 S.length t S = .ok t S := fin1_le (Nat.le_refl _)
theorem finE_le {b c : Nat} {p : Option T} {S : Sto} (h : S.length ≤ b) : finE b c p S = .ex c p S := by simp [finE, h]
@[simp] theorem finE_eq {c : Nat} {p : Option T} {S : Sto} : finE S.length c p S = .ex c p S := finE_le (Nat.le_refl _)

theorem seq_nx {E : EV} {a b : IS} {ρ ρ' : Rho} {S S' : Sto} (h : evS E a ρ S = some (.nx ρ' S')) : evS E (.seq a b) ρ S = evS E b ρ' S' := by rw [wS_seq, h]
theorem seq_rt {E : EV} {a b : IS} {ρ : Rho} {S S' : Sto} {t : T} (h : evS E a ρ S = some (.rt t S')) : evS E (.seq a b) ρ S = some (.rt t S') := by rw [wS_seq, h]
theorem seq_ex {E : EV} {a b : IS} {ρ ρ' : Rho} {S S' : Sto} {c : Nat} {p : Option T} (h : evS E a ρ S = some (.ex c p ρ' S')) : evS E (.seq a b) ρ S = some (.ex c p ρ' S') := by rw [wS_seq, h]
theorem for_eq {E : EV} {tg : Tg} {src : IE} {b : IS} {ρ : Rho} {S S1 : Sto} {l : List T} {r : ResS} (h1 : evE E src ρ S = some (.ok (.tup l) S1)) (h2 : forL (frT E tg b) l ρ S1 = r) : evS E (.for_ tg src b) ρ S = r := by rw [wS_for, h1]; exact h2
theorem asg_eq {E : EV} {i : Nat} {e : IE} {ρ : Rho} {S S1 : Sto} {t : T} (h1 : evE E e ρ S = some (.ok t S1)) : evS E (.asg (.nm i) e) ρ S = some (.nx (ρ.set i (some t)) S1) := by rw [wS_asg, h1]; rfl
theorem iff_eq {E : EV} {c : IE} {a b : IS} {ρ : Rho} {S S1 : Sto} {k : Bool} (h1 : evE E c ρ S = some (.ok (.bl k) S1)) : evS E (.iff c a b) ρ S = evS E (if k = true then a else b) ρ S1 := by
  rw [wS_iff, h1]; cases k <;> rfl
theorem ret_eq {E : EV} {e : IE} {ρ : Rho} {S S1 : Sto} {t : T} (h1 : evE E e ρ S = some (.ok t S1)) : evS E (.ret e) ρ S = some (.rt t S1) := by rw [wS_ret, h1]
/-! ### loops -/
@[simp] theorem forL_nil {g : T → Rho → Sto → ResS} {ρ : Rho} {S : Sto} : forL g [] ρ S = some (.nx ρ S) := id rfl
theorem forL_c {g : T → Rho → Sto → ResS} {x : T} {xs : List T} {ρ : Rho} {S : Sto} : forL g (x :: xs) ρ S = (match g x ρ S with
  | some (.nx ρ' S') => forL g xs ρ' S'
  | some (.ct ρ' S') => forL g xs ρ' S'
  | some (.bk ρ' S') => some (.nx ρ' S')
  | r => r) := id rfl
theorem forL_nx {g : T → Rho → Sto → ResS} {x : T} {xs : List T} {ρ ρ' : Rho} {S S' : Sto} (h : g x ρ S = some (.nx ρ' S')) : forL g (x :: xs) ρ S = forL g xs ρ' S' := by rw [forL_c, h]
theorem forL_rt {g : T → Rho → Sto → ResS} {x : T} {xs : List T} {ρ : Rho} {S S' : Sto} {t : T} (h : g x ρ S = some (.rt t S')) : forL g (x :: xs) ρ S = some (.rt t S') := by rw [forL_c, h]
theorem frT_e {E : EV} {tg : Tg} {b : IS} {t : T} {ρ : Rho} {S : Sto} : frT E tg b t ρ S = (match bindT tg t ρ with | some ρ' => evS E b ρ' S | none => none) := id rfl
theorem frT_nm {E : EV} {i : Nat} {b : IS} {t : T} {ρ : Rho} {S : Sto} : frT E (.nm i) b t ρ S = evS E b (ρ.set i (some t)) S := id rfl
theorem seq_one {E : EV} {a : IS} {ρ ρ' : Rho} {S S' : Sto} (h : evS E a ρ S = some (.nx ρ' S')) : evS E (.seq a .skip) ρ S = some (.nx ρ' S') := by rw [wS_seq, h]; rfl
theorem forL_inv {g : T → Rho → Sto → ResS} (I : Rho → Sto → Prop) : ∀ {l : List T}, (∀ x ∈ l, ∀ ρ S, I ρ S → ∃ ρ' S', (g x ρ S = some (.nx ρ' S') ∨ g x ρ S = some (.ct ρ' S')) ∧ I ρ' S') → ∀ {ρ S}, I ρ S → ∃ ρ' S', forL g l ρ S = some (.nx ρ' S') ∧ I ρ' S'
  | [], _, ρ, S, hi => ⟨ρ, S, rfl, hi⟩
  | x :: l, h, ρ, S, hi => by
    obtain ⟨ρ', S', e, hi'⟩ := h x (by simp) ρ S hi
    obtain ⟨ρ2, S2, e2, h2⟩ := forL_inv I (l := l) (fun y hy => h y (List.mem_cons_of_mem _ hy)) hi'
    refine ⟨ρ2, S2, ?_, h2⟩
    rcases e with e | e <;> simp [forL, e, e2]
/-- with the list that is still to come -/
theorem forL_invL {g : T → Rho → Sto → ResS} (I : List T → Rho → Sto → Prop) : ∀ {l : List T}, (∀ x r ρ S, I (x :: r) ρ S → ∃ ρ' S', (g x ρ S = some (.nx ρ' S') ∨ g x ρ S = some (.ct ρ' S')) ∧ I r ρ' S') → ∀ {ρ S}, I l ρ S → ∃ ρ' S', forL g l ρ S = some (.nx ρ' S') ∧ I [] ρ' S'
  | [], _, ρ, S, hi => ⟨ρ, S, rfl, hi⟩
  | x :: l, h, ρ, S, hi => by
    obtain ⟨ρ', S', e, hi'⟩ := h x l ρ S hi
    obtain ⟨ρ2, S2, e2, h2⟩ := forL_invL I h hi'
    refine ⟨ρ2, S2, ?_, h2⟩
    rcases e with e | e <;> simp [forL, e, e2]
/-- what holds behind the items that have been walked -/
theorem forL_pre {α : Type} {g : T → Rho → Sto → ResS} (enc : α → T) (J : List α → Rho → Sto → Prop) (l : List α) (h : ∀ pre a post, l = pre ++ a :: post → ∀ ρ S, J pre ρ S → ∃ ρ' S', (g (enc a) ρ S = some (.nx ρ' S') ∨ g (enc a) ρ S = some (.ct ρ' S')) ∧ J (pre ++ [a]) ρ' S') :
    ∀ {ρ S}, J [] ρ S → ∃ ρ' S', forL g (l.map enc) ρ S = some (.nx ρ' S') ∧ J l ρ' S' := by
  have key : ∀ (r pre : List α), l = pre ++ r → ∀ ρ S, J pre ρ S → ∃ ρ' S', forL g (r.map enc) ρ S = some (.nx ρ' S') ∧ J l ρ' S' := by
    intro r
    induction r with
    | nil => intro pre e ρ S hi; rw [List.append_nil] at e; subst e; exact ⟨ρ, S, rfl, hi⟩
    | cons a r ih =>
      intro pre e ρ S hi
      obtain ⟨ρ', S', e1, hi'⟩ := h pre a r e ρ S hi
      obtain ⟨ρ2, S2, e2, h2⟩ := ih (pre ++ [a]) (by rw [e]; simp) ρ' S' hi'
      refine ⟨ρ2, S2, ?_, h2⟩
      rcases e1 with e1 | e1 <;> simp [forL, e1, e2]
  intro ρ S hi
  exact key l [] rfl ρ S hi
/-- .. with a return on the way -/
theorem forL_preR {α : Type} {g : T → Rho → Sto → ResS} (enc : α → T) (J : List α → Rho → Sto → Prop) (R : List α → T → Sto → Prop) (l : List α) (h : ∀ pre a post, l = pre ++ a :: post → ∀ ρ S, J pre ρ S → (∃ ρ' S', (g (enc a) ρ S = some (.nx ρ' S') ∨ g (enc a) ρ S = some (.ct ρ' S')) ∧ J (pre ++ [a]) ρ' S') ∨ ∃ t S', g (enc a) ρ S = some (.rt t S') ∧ R (pre ++ [a]) t S') :
    ∀ {ρ S}, J [] ρ S → (∃ ρ' S', forL g (l.map enc) ρ S = some (.nx ρ' S') ∧ J l ρ' S') ∨ ∃ pre post t S', l = pre ++ post ∧ forL g (l.map enc) ρ S = some (.rt t S') ∧ R pre t S' := by
  have key : ∀ (r pre : List α), l = pre ++ r → ∀ ρ S, J pre ρ S → (∃ ρ' S', forL g (r.map enc) ρ S = some (.nx ρ' S') ∧ J l ρ' S') ∨ ∃ pre post t S', l = pre ++ post ∧ forL g (r.map enc) ρ S = some (.rt t S') ∧ R pre t S' := by
    intro r
    induction r with
    | nil => intro pre e ρ S hi; rw [List.append_nil] at e; subst e; exact .inl ⟨ρ, S, rfl, hi⟩
    | cons a r ih =>
      intro pre e ρ S hi
      rcases h pre a r e ρ S hi with ⟨ρ', S', e1, hi'⟩ | ⟨t, S', e1, hr⟩
      · rcases ih (pre ++ [a]) (by rw [e]; simp) ρ' S' hi' with ⟨ρ2, S2, e2, h2⟩ | ⟨p2, q2, t, S2, e2, e3, h3⟩
        · refine .inl ⟨ρ2, S2, ?_, h2⟩
          rcases e1 with e1 | e1 <;> simp [forL, e1, e2]
        · refine .inr ⟨p2, q2, t, S2, e2, ?_, h3⟩
          rcases e1 with e1 | e1 <;> simp [forL, e1, e3]
      · exact .inr ⟨pre ++ [a], r, t, S', by rw [e]; simp, by simp [forL, e1], hr⟩
  intro ρ S hi
  exact key l [] rfl ρ S hi
theorem rngT_idx {α : Type} (l : List α) : rngT 0 l.length = l.zipIdx.map fun p => T.int (p.2 : Nat) := by
  have e : l.zipIdx.map (·.2) = List.range l.length := by rw [List.zipIdx_map_snd, List.range_eq_range']
  rw [rngT, ← e, List.map_map]
  refine List.map_congr_left fun p _ => ?_
  simp
theorem zipIdx_pre {α : Type} {l : List α} {pre post : List (α × Nat)} {a : α} {i : Nat} (h : l.zipIdx = pre ++ (a, i) :: post) : i = pre.length ∧ l = pre.map (·.1) ++ a :: post.map (·.1) ∧ l[i]? = some a := by
  have e1 : l = pre.map (·.1) ++ a :: post.map (·.1) := by
    have := congrArg (List.map (·.1)) h
    rw [List.zipIdx_map_fst] at this
    simpa using this
  have e2 : l.zipIdx[pre.length]? = some (a, i) := by rw [h]; simp
  rw [List.getElem?_zipIdx] at e2
  simp only [Option.map_eq_some_iff, Prod.mk.injEq, Nat.zero_add] at e2
  obtain ⟨z, h1, h2, h3⟩ := e2
  subst h2
  exact ⟨h3.symm, e1, by rw [← h3]; exact h1⟩
/-- a comprehension whose turns leave the store -/
theorem lcL_pure {g : T → Sto → Option (Option T × Sto)} {f : T → Option T} {S : Sto} : ∀ {l acc : List T}, (∀ x ∈ l, g x S = some (f x, S)) → acc.length + l.length ≤ line → lcL g l acc S = some (acc ++ l.filterMap f, S)
  | [], acc, _, _ => by simp [lcL]
  | x :: l, acc, h, hl => by
    have hx := h x (by simp)
    simp only [List.length_cons] at hl
    cases hf : f x with
    | some y =>
      rw [hf] at hx
      rw [lcL, hx]
      simp only []
      rw [if_pos (by omega), lcL_pure (fun z hz => h z (by simp [hz])) (by simp; omega)]
      simp [hf]
    | none =>
      rw [hf] at hx
      rw [lcL, hx]
      simp only []
      rw [lcL_pure (fun z hz => h z (by simp [hz])) (by omega)]
      simp [hf]
theorem lcL_enc {α : Type} {g : T → Sto → Option (Option T × Sto)} (enc : α → T) {f : α → Option T} {S : Sto} (l : List α) (h : ∀ a ∈ l, g (enc a) S = some (f a, S)) (hl : l.length ≤ line) : lcL g (l.map enc) [] S = some (l.filterMap f, S) := by
  have key : ∀ (r : List α) (acc : List T), (∀ a ∈ r, g (enc a) S = some (f a, S)) → acc.length + r.length ≤ line → lcL g (r.map enc) acc S = some (acc ++ r.filterMap f, S) := by
    intro r
    induction r with
    | nil => intro acc _ _; simp [lcL]
    | cons a r ih =>
      intro acc h hl
      have hx := h a (by simp)
      simp only [List.length_cons] at hl
      rw [List.map_cons]
      cases hf : f a with
      | some y =>
        rw [hf] at hx
        rw [lcL, hx]
        simp only []
        rw [if_pos (by omega), ih _ (fun z hz => h z (by simp [hz])) (by simp; omega)]
        simp [hf]
      | none =>
        rw [hf] at hx
        rw [lcL, hx]
        simp only []
        rw [ih _ (fun z hz => h z (by simp [hz])) (by omega)]
        simp [hf]
  have := key l [] h (by simpa using hl)
  simpa using this
theorem lcL_encM {α : Type} {g : T → Sto → Option (Option T × Sto)} (enc f : α → T) {S : Sto} (l : List α) (h : ∀ a ∈ l, g (enc a) S = some (some (f a), S)) (hl : l.length ≤ line) : lcL g (l.map enc) [] S = some (l.map f, S) := by
  rw [lcL_enc enc (f := fun a => some (f a)) l h hl, List.filterMap_eq_map']
theorem lcL_encF {α : Type} {g : T → Sto → Option (Option T × Sto)} (enc : α → T) (p : α → Bool) {S : Sto} (l : List α) (h : ∀ a ∈ l, g (enc a) S = some (if p a = true then some (enc a) else none, S)) (hl : l.length ≤ line) : lcL g (l.map enc) [] S = some ((l.filter p).map enc, S) := by
  rw [lcL_enc enc (f := fun a => if p a = true then some (enc a) else none) l h hl]
  congr 2
  clear h hl
  induction l with
  | nil => rfl
  | cons a l ih =>
    by_cases q : p a = true
    · simp [q, ih]
    · simp [q, ih]
/-- a comprehension whose turns keep a law of the store -/
theorem lcL_inv {g : T → Sto → Option (Option T × Sto)} (I : Sto → Prop) (P : T → Prop) : ∀ {l acc : List T}, (∀ x ∈ l, ∀ S, I S → ∃ o S', g x S = some (o, S') ∧ I S' ∧ ∀ y, o = some y → P y) → acc.length + l.length ≤ line → (∀ y ∈ acc, P y) → ∀ {S}, I S →
    ∃ ys S', lcL g l acc S = some (ys, S') ∧ I S' ∧ (∀ y ∈ ys, P y) ∧ ys.length ≤ acc.length + l.length
  | [], acc, _, _, ha, S, hi => ⟨acc, S, rfl, hi, ha, by simp⟩
  | x :: l, acc, h, hl, ha, S, hi => by
    obtain ⟨o, S', e, hi', hp⟩ := h x (by simp) S hi
    simp only [List.length_cons] at hl
    cases o with
    | some y =>
      obtain ⟨ys, S2, e2, h1, h2, h3⟩ := lcL_inv I P (l := l) (acc := acc ++ [y]) (fun z hz => h z (by simp [hz])) (by simp; omega) (by
        intro z hz
        rcases List.mem_append.mp hz with hz | hz
        · exact ha z hz
        · rw [List.mem_singleton.mp hz]; exact hp y rfl) hi'
      refine ⟨ys, S2, ?_, h1, h2, by simp at h3 ⊢; omega⟩
      rw [lcL, e]
      simp only []
      rw [if_pos (by omega), e2]
    | none =>
      obtain ⟨ys, S2, e2, h1, h2, h3⟩ := lcL_inv I P (l := l) (acc := acc) (fun z hz => h z (by simp [hz])) (by omega) ha hi'
      refine ⟨ys, S2, ?_, h1, h2, by simp at h3 ⊢; omega⟩
      rw [lcL, e]
      simp only []
      rw [e2]
@[simp] theorem rngT_len (lo : Int) (n : Nat) : (rngT lo n).length = n := by simp [rngT]
theorem rngT_mem {lo : Int} {n : Nat} {t : T} (h : t ∈ rngT lo n) : ∃ k : Nat, k < n ∧ t = .int (lo + k) := by
  simp only [rngT, List.mem_map, List.mem_range] at h
  obtain ⟨k, h1, rfl⟩ := h
  exact ⟨k, h1, rfl⟩

theorem rg1_eq {E : EV} {a : IE} {ρ : Rho} {S S1 : Sto} {k : Nat} (h : evE E a ρ S = some (.ok (.int (k : Nat)) S1)) (hk : k ≤ 1000000) : evE E (.rg1 a) ρ S = some (.ok (.tup (rngT 0 k)) S1) := by
  have hok : okR (k : Int) = true := by simp [okR]; omega
  rw [wE_rg1, h]
  simp only [hok, if_true, Int.toNat_natCast]
theorem len_eq {E : EV} {i : Nat} {ρ : Rho} {S : Sto} {l : List T} (h : ρ[i]? = some (some (.tup l))) : evE E (.blt false .len (.cons (.var i) .nil)) ρ S = some (.ok (.int (l.length : Nat)) S) := by
  simp [h]
/-! ### the tun -/
def Tn (S : Sto) (k : Nat) : Prop := ∃ a b : Int, S[k]? = some (.lst [.int a, .int b]) ∧ 0 ≤ a ∧ 0 ≤ b ∧ b < 2147477807
/-- the store after some draws -/
def Tw (k : Nat) (S S' : Sto) : Prop := k < S.length ∧ ∃ a b : Int, S' = S.set k (.lst [.int a, .int b]) ∧ 0 ≤ a ∧ 0 ≤ b ∧ b < 2147477807
theorem Tw.len {k : Nat} {S S' : Sto} (h : Tw k S S') : S'.length = S.length := by
  obtain ⟨_, a, b, rfl, _⟩ := h; simp
theorem Tw.tn {k : Nat} {S S' : Sto} (h : Tw k S S') : Tn S' k := by
  obtain ⟨h0, a, b, rfl, h⟩ := h; exact ⟨a, b, by simp [h0], h⟩
theorem Tw.trans {k : Nat} {S S' S2 : Sto} (h : Tw k S S') (h2 : Tw k S' S2) : Tw k S S2 := by
  obtain ⟨h0, a, b, rfl, h⟩ := h
  obtain ⟨_, a2, b2, rfl, h2⟩ := h2
  exact ⟨h0, a2, b2, by simp, h2⟩
theorem Tn.lt {k : Nat} {S : Sto} (h : Tn S k) : k < S.length := by
  obtain ⟨a, b, h, _⟩ := h; exact (List.getElem?_eq_some_iff.mp h).1
theorem Tn.tw {k : Nat} {S : Sto} (h : Tn S k) : Tw k S S := by
  obtain ⟨a, b, h, h2⟩ := h
  refine ⟨(List.getElem?_eq_some_iff.mp h).1, a, b, ?_, h2⟩
  obtain ⟨q, e⟩ := List.getElem?_eq_some_iff.mp h
  rw [← e]; simp
theorem Tw.other {k j : Nat} {S S' : Sto} (h : Tw k S S') (hj : j ≠ k) : S'[j]? = S[j]? := by
  obtain ⟨_, a, b, rfl, _⟩ := h
  rw [List.getElem?_set_ne (Ne.symm hj)]

/-! ### what a def leaves of the store -/
mutual
theorem noBx_up {b : Nat} : ∀ {t : T}, noBx 0 t = true → noBx b t = true
  | .box n, h => by simp [noBx] at h
  | .tup l, h => by simp only [noBx] at h ⊢; exact noBxL_up h
  | .lst l, h => by simp only [noBx] at h ⊢; exact noBxL_up h
  | .non, _ => rfl
  | .bl _, _ => rfl
  | .int _, _ => rfl
  | .str _, _ => rfl
  | .fn _, _ => rfl
  | .scr _, _ => rfl
theorem noBxL_up {b : Nat} : ∀ {l : List T}, noBxL 0 l = true → noBxL b l = true
  | [], _ => rfl
  | t :: l, h => by
    simp only [noBxL, Bool.and_eq_true] at h ⊢
    exact ⟨noBx_up h.1, noBxL_up h.2⟩
end
theorem noBxL_iff {b : Nat} : ∀ {l : List T}, noBxL b l = true ↔ ∀ t ∈ l, noBx b t = true
  | [] => by simp [noBxL]
  | t :: l => by simp [noBxL, noBxL_iff (l := l)]
theorem noBxO_up {b : Nat} {ob : Ob} (h : noBxO 0 ob = true) : noBxO b ob = true := by
  cases ob with
  | lst l => exact noBxL_up h
  | _ => exact h
/-- no boxes in the store's objects -/
def Cl (S : Sto) : Prop := ∀ ob ∈ S, noBxO 0 ob = true
theorem Cl.all {S : Sto} (h : Cl S) (b : Nat) : S.all (noBxO b) = true := List.all_eq_true.mpr fun ob ho => noBxO_up (h ob ho)
theorem Cl.tw {k : Nat} {S S' : Sto} (h : Cl S) (w : Tw k S S') : Cl S' := by
  obtain ⟨_, a, b, rfl, _⟩ := w
  intro ob ho
  rcases List.mem_or_eq_of_mem_set ho with ho | rfl
  · exact h ob ho
  · rfl
theorem Cl.app {S : Sto} (h : Cl S) {l : List T} (hl : noBxL 0 l = true) : Cl (S ++ [.lst l]) := by
  intro ob ho
  rcases List.mem_append.mp ho with ho | ho
  · exact h ob ho
  · rw [List.mem_singleton.mp ho]; exact hl
theorem thaw_no {b : Nat} {t : T} {S : Sto} (h : noBx 0 t = true) : thaw b t S = t := by
  cases t <;> first | rfl | simp [noBx] at h
theorem fin1_cut {S X : Sto} {t : T} {b : Nat} (hb : S.length = b) (ht : noBx 0 t = true) (h : Cl S) : fin1 b t (S ++ X) = .ok t S := by
  subst hb
  unfold fin1
  split
  · rename_i q
    have : X = [] := List.eq_nil_of_length_eq_zero (by rw [List.length_append] at q; omega)
    subst this; simp
  · rw [thaw_no ht, noBx_up ht]
    simp [h.all]
theorem finE_cut {S X : Sto} {c : Nat} {p : Option T} {b : Nat} (hb : S.length = b) (h : Cl S) : finE b c p (S ++ X) = .ex c p S := by
  subst hb
  unfold finE
  split
  · rename_i q
    have : X = [] := List.eq_nil_of_length_eq_zero (by rw [List.length_append] at q; omega)
    subst this; simp
  · simp [h.all]
/-- a list of this def's own, handed out -/
theorem fin1_thaw {S X : Sto} {l : List T} {b n : Nat} (hb : S.length = b) (hn : b ≤ n) (hx : (S ++ X)[n]? = some (.lst l)) (ht : noBxL 0 l = true) (h : Cl S) : fin1 b (.box n) (S ++ X) = .ok (.lst l) S := by
  subst hb
  unfold fin1
  split
  · rename_i q
    have : X = [] := List.eq_nil_of_length_eq_zero (by rw [List.length_append] at q; omega)
    subst this
    have := (List.getElem?_eq_some_iff.mp hx).1
    simp at this; omega
  · have e : thaw S.length (.box n) (S ++ X) = .lst l := by simp only [thaw]; rw [if_pos hn, hx]
    rw [e]
    simp [h.all, noBx, noBxL_up ht]
theorem Tn.app {k : Nat} {S : Sto} (h : Tn S k) (X : Sto) : Tn (S ++ X) k := by
  obtain ⟨a, b, h, h2⟩ := h
  exact ⟨a, b, by rw [List.getElem?_append_left (List.getElem?_eq_some_iff.mp h).1]; exact h, h2⟩
theorem Tw.app {k : Nat} {S X S' : Sto} (hk : k < S.length) (h : Tw k (S ++ X) S') : ∃ S1, S' = S1 ++ X ∧ Tw k S S1 := by
  obtain ⟨_, a, b, rfl, h⟩ := h
  exact ⟨S.set k (.lst [.int a, .int b]), by rw [List.set_append_left _ _ hk], hk, a, b, rfl, h⟩
end Fw

namespace Fw
open PySem L2 PyProof.Rows
/-! ## the text of this law, by places -/
def top (i : Nat) : Stmt := PySem.Challenge.pw_fencewatch_k03_walks_and_what_looks_tell.main.body.getD i (.Pass ⟨0, 0, 0, 0⟩)
def fd_is_from : FD := ⟨3, 3, false, (.seq (.ret (.and (.isi (.var 0) "int") (.and (.not (.isi (.var 0) "bool")) (.chn .LtE .LtE (.var 1) (.var 0) (.var 2))))) .skip)⟩
def fd_is_good_watcher : FD := ⟨1, 4, false, (.seq (.iff (.or (.not (.isi (.var 0) "tuple")) (.cmp .NotEq (.blt false .len (.cons (.var 0) .nil)) (.lit (.int 7)))) (.seq (.ret (.lit (.bl false))) .skip) .skip) (.seq (.iff (.or (.not (.blt false .all (.cons (.lc false [3] (.call 0 (.cons (.var 3) (.cons (.neg (.op false .Pow (.lit (.int 10)) (.lit (.int 30)))) (.cons (.op false .Pow (.lit (.int 10)) (.lit (.int 30))) .nil)))) (.nm 3) (.sq (.sl false (.var 0) .nil (.lit (.int 2)))) (.lit (.bl true))) .nil))) (.cmp .Gt (.ix (.var 0) (.lit (.int 0))) (.ix (.var 0) (.lit (.int 1))))) (.seq (.ret (.lit (.bl false))) .skip) .skip) (.seq (.iff (.not (.blt false .all (.cons (.lc false [1] (.call 0 (.cons (.var 1) (.cons (.lit (.int 0)) (.cons (.lit (.int 3)) .nil)))) (.nm 1) (.sq (.sl false (.var 0) (.lit (.int 2)) (.lit (.int 4)))) (.lit (.bl true))) .nil))) (.seq (.ret (.lit (.bl false))) .skip) .skip) (.seq (.iff (.not (.blt false .all (.cons (.lc false [2] (.call 0 (.cons (.var 2) (.cons (.lit (.int 1)) (.cons (.lit (.int 3)) .nil)))) (.nm 2) (.sq (.sl false (.var 0) (.lit (.int 4)) (.lit (.int 6)))) (.lit (.bl true))) .nil))) (.seq (.ret (.lit (.bl false))) .skip) .skip) (.seq (.ret (.and (.isi (.ix (.var 0) (.lit (.int 6))) "str") (.cmp .In (.ix (.var 0) (.lit (.int 6))) (.tup (.cons (.lit (.str (Str.ofString "keep"))) (.cons (.lit (.str (Str.ofString "drop"))) .nil)))))) .skip)))))⟩
def fd_is_good_world : FD := ⟨1, 2, false, (.seq (.iff (.or (.not (.isi (.var 0) "tuple")) (.cmp .NotEq (.blt false .len (.cons (.var 0) .nil)) (.lit (.int 3)))) (.seq (.ret (.lit (.bl false))) .skip) .skip) (.seq (.ret (.and (.blt false .all (.cons (.lc false [1] (.call 0 (.cons (.var 1) (.cons (.lit (.int 0)) (.cons (.lit (.int 3)) .nil)))) (.nm 1) (.sq (.sl false (.var 0) .nil (.lit (.int 2)))) (.lit (.bl true))) .nil)) (.call 0 (.cons (.ix (.var 0) (.lit (.int 2))) (.cons (.lit (.int 0)) (.cons (.lit (.int 2)) .nil)))))) .skip))⟩
def fd_is_look : FD := ⟨1, 1, false, (.seq (.ret (.or (.cmp .Is (.var 0) (.lit .non)) (.call 0 (.cons (.var 0) (.cons (.op false .Sub (.lit (.int 0)) (.cst 0)) (.cons (.cst 0) .nil)))))) .skip)⟩
def fd_are_looks : FD := ⟨1, 2, false, (.seq (.ret (.and (.isi (.var 0) "tuple") (.and (.cmp .LtE (.blt false .len (.cons (.var 0) .nil)) (.lit (.int 100))) (.blt false .all (.cons (.lc false [1] (.call 3 (.cons (.var 1) .nil)) (.nm 1) (.sq (.var 0)) (.lit (.bl true))) .nil))))) .skip)⟩
def fd_depth_of : FD := ⟨2, 2, false, (.seq (.ret (.blt false .min (.cons (.op false .Sub (.var 1) (.ix (.var 0) (.lit (.int 0)))) (.cons (.op false .Sub (.ix (.var 0) (.lit (.int 1))) (.var 1)) .nil)))) .skip)⟩
def fd_word_at : FD := ⟨2, 2, false, (.seq (.ret (.ite (.cmp .GtE (.var 1) (.ix (.var 0) (.lit (.int 2)))) (.lit (.str (Str.ofString "in"))) (.ite (.cmp .Lt (.var 1) (.op false .Sub (.lit (.int 0)) (.ix (.var 0) (.lit (.int 3))))) (.lit (.str (Str.ofString "out"))) (.lit (.str (Str.ofString "edge")))))) .skip)⟩
def fd_look_word : FD := ⟨2, 2, false, (.seq (.ret (.ite (.cmp .Is (.var 1) (.lit .non)) (.lit (.str (Str.ofString "lost"))) (.call 6 (.cons (.var 0) (.cons (.call 5 (.cons (.var 0) (.cons (.var 1) .nil))) .nil))))) .skip)⟩
def fd_stepped : FD := ⟨3, 5, false, (.seq (.asg (.tp (.cn (.nm 3) (.cn (.nm 4) .nl))) (.var 1)) (.seq (.iff (.cmp .Eq (.var 2) (.lit (.str (Str.ofString "lost")))) (.seq (.ret (.tup (.cons (.ite (.cmp .Eq (.ix (.var 0) (.lit (.int 6))) (.lit (.str (Str.ofString "keep")))) (.tup (.cons (.var 3) (.cons (.var 4) .nil))) (.tup (.cons (.var 3) (.cons (.lit (.int 0)) .nil)))) (.cons (.lit .non) .nil)))) .skip) .skip) (.seq (.iff (.cmp .NotEq (.var 2) (.ite (.var 3) (.lit (.str (Str.ofString "out"))) (.lit (.str (Str.ofString "in"))))) (.seq (.ret (.tup (.cons (.tup (.cons (.var 3) (.cons (.lit (.int 0)) .nil))) (.cons (.lit .non) .nil)))) .skip) .skip) (.seq (.iff (.cmp .Lt (.op false .Add (.var 4) (.lit (.int 1))) (.ix (.var 0) (.ite (.var 3) (.lit (.int 5)) (.lit (.int 4))))) (.seq (.ret (.tup (.cons (.tup (.cons (.var 3) (.cons (.op false .Add (.var 4) (.lit (.int 1))) .nil))) (.cons (.lit .non) .nil)))) .skip) .skip) (.seq (.ret (.tup (.cons (.tup (.cons (.not (.var 3)) (.cons (.lit (.int 0)) .nil))) (.cons (.ite (.var 3) (.lit (.str (Str.ofString "gone"))) (.lit (.str (Str.ofString "come")))) .nil)))) .skip)))))⟩
def fd_need_watcher : FD := ⟨1, 1, false, (.seq (.iff (.not (.call 1 (.cons (.var 0) .nil))) (.seq (.rs 1) .skip) .skip) .skip)⟩
def fd_need_world : FD := ⟨1, 1, false, (.seq (.iff (.not (.call 2 (.cons (.var 0) .nil))) (.seq (.rs 2) .skip) .skip) .skip)⟩
def fd_need_looks : FD := ⟨1, 1, false, (.seq (.iff (.not (.call 4 (.cons (.var 0) .nil))) (.seq (.rs 3) .skip) .skip) .skip)⟩
def fd_is_good_walk : FD := ⟨2, 5, false, (.seq (.iff (.or (.not (.isi (.var 1) "tuple")) (.or (.cmp .Gt (.blt false .len (.cons (.var 1) .nil)) (.lit (.int 100))) (.not (.blt false .all (.cons (.lc false [4] (.call 0 (.cons (.var 4) (.cons (.op false .Sub (.lit (.int 0)) (.cst 0)) (.cons (.cst 0) .nil)))) (.nm 4) (.sq (.var 1)) (.lit (.bl true))) .nil))))) (.seq (.ret (.lit (.bl false))) .skip) .skip) (.seq (.ret (.blt false .all (.cons (.lc false [2, 3] (.cmp .LtE (.blt false .abs (.cons (.op false .Sub (.var 2) (.var 3)) .nil)) (.ix (.var 0) (.lit (.int 0)))) (.tp (.cn (.nm 2) (.cn (.nm 3) .nl))) (.zp (.var 1) (.sl false (.var 1) (.lit (.int 1)) .nil)) (.lit (.bl true))) .nil))) .skip))⟩
def fd_lost_runs : FD := ⟨1, 4, false, (.seq (.asg (.tp (.cn (.nm 2) (.cn (.nm 3) .nl))) (.tup (.cons (.lit (.int 0)) (.cons (.lit (.int 0)) .nil)))) (.seq (.for_ (.nm 1) (.sq (.var 0)) (.seq (.asg (.nm 3) (.ite (.cmp .Is (.var 1) (.lit .non)) (.op false .Add (.var 3) (.lit (.int 1))) (.lit (.int 0)))) (.seq (.asg (.nm 2) (.blt false .max (.cons (.var 2) (.cons (.var 3) .nil)))) .skip))) (.seq (.ret (.var 2)) .skip)))⟩
def fd_goes : FD := ⟨3, 5, false, (.seq (.iff (.or (.cmp .NotEq (.blt false .len (.cons (.var 1) .nil)) (.blt false .len (.cons (.var 2) .nil))) (.cmp .Gt (.call 13 (.cons (.var 2) .nil)) (.ix (.var 0) (.lit (.int 2))))) (.seq (.ret (.lit (.bl false))) .skip) .skip) (.seq (.ret (.blt false .all (.cons (.lc false [3, 4] (.or (.cmp .Is (.var 4) (.lit .non)) (.cmp .LtE (.blt false .abs (.cons (.op false .Sub (.var 4) (.var 3)) .nil)) (.ix (.var 0) (.lit (.int 1))))) (.tp (.cn (.nm 3) (.cn (.nm 4) .nl))) (.zp (.var 1) (.var 2)) (.lit (.bl true))) .nil))) .skip))⟩
def fd_wrongs : FD := ⟨4, 8, false, (.seq (.asg (.nm 4) (.lit (.int 0))) (.seq (.for_ (.tp (.cn (.nm 5) (.cn (.nm 6) .nl))) (.zp (.var 2) (.var 3)) (.seq (.asg (.tp (.cn (.nm 1) (.cn (.nm 7) .nl))) (.call 8 (.cons (.var 0) (.cons (.var 1) (.cons (.call 7 (.cons (.var 0) (.cons (.var 6) .nil))) .nil))))) (.seq (.asg (.nm 4) (.op false .Add (.var 4) (.blt false .int (.cons (.cmp .NotEq (.ix (.var 1) (.lit (.int 0))) (.cmp .GtE (.call 5 (.cons (.var 0) (.cons (.var 5) .nil))) (.lit (.int 0)))) .nil)))) .skip))) (.seq (.ret (.tup (.cons (.var 4) (.cons (.var 1) .nil)))) .skip)))⟩
def fd_need_walk : FD := ⟨2, 2, false, (.seq (.iff (.not (.call 12 (.cons (.var 0) (.cons (.var 1) .nil)))) (.seq (.rs 4) .skip) .skip) .skip)⟩
def fd_moved_by : FD := ⟨2, 2, false, (.seq (.ret (.ite (.cmp .Is (.var 0) (.lit .non)) (.lit .non) (.op false .Add (.var 0) (.var 1)))) .skip)⟩
def fd_greater : FD := ⟨2, 2, false, (.seq (.ret (.ite (.cmp .Is (.var 0) (.lit .non)) (.var 1) (.ite (.cmp .Is (.var 1) (.lit .non)) (.var 0) (.blt false .max (.cons (.var 0) (.cons (.var 1) .nil)))))) .skip)⟩
def fd_lesser : FD := ⟨2, 2, false, (.seq (.ret (.ite (.cmp .Is (.var 0) (.lit .non)) (.var 1) (.ite (.cmp .Is (.var 1) (.lit .non)) (.var 0) (.blt false .min (.cons (.var 0) (.cons (.var 1) .nil)))))) .skip)⟩
def fd_ranges : FD := ⟨2, 6, false, (.seq (.par3 3 4 5 (.cons (.lst false .nil) (.cons (.lit .non) (.cons (.lit .non) .nil)))) (.seq (.for_ (.nm 2) (.sq (.var 1)) (.seq (.par2 4 5 (.cons (.call 17 (.cons (.var 4) (.cons (.op false .Sub (.lit (.int 0)) (.ix (.var 0) (.lit (.int 0)))) .nil))) (.cons (.call 17 (.cons (.var 5) (.cons (.ix (.var 0) (.lit (.int 0))) .nil))) .nil))) (.seq (.iff (.cmp .IsNot (.var 2) (.lit .non)) (.seq (.par2 4 5 (.cons (.call 18 (.cons (.var 4) (.cons (.op false .Sub (.var 2) (.ix (.var 0) (.lit (.int 1)))) .nil))) (.cons (.call 19 (.cons (.var 5) (.cons (.op false .Add (.var 2) (.ix (.var 0) (.lit (.int 1)))) .nil))) .nil))) .skip) .skip) (.seq (.asg (.nm 3) (.op false .Add (.var 3) (.lst false (.cons (.tup (.cons (.var 4) (.cons (.var 5) .nil))) .nil)))) .skip)))) (.seq (.ret (.var 3)) .skip)))⟩
def fd_go_with : FD := ⟨3, 3, false, (.seq (.expr (.call 10 (.cons (.var 0) .nil))) (.seq (.expr (.call 16 (.cons (.var 0) (.cons (.var 1) .nil)))) (.seq (.expr (.call 11 (.cons (.var 2) .nil))) (.seq (.ret (.call 14 (.cons (.var 0) (.cons (.var 1) (.cons (.var 2) .nil))))) .skip))))⟩
def fd_wrong_looks : FD := ⟨4, 4, false, (.seq (.expr (.call 9 (.cons (.var 0) .nil))) (.seq (.expr (.call 10 (.cons (.var 1) .nil))) (.seq (.expr (.call 16 (.cons (.var 1) (.cons (.var 2) .nil)))) (.seq (.expr (.call 11 (.cons (.var 3) .nil))) (.seq (.iff (.not (.call 14 (.cons (.var 1) (.cons (.var 2) (.cons (.var 3) .nil))))) (.seq (.rs 3) .skip) .skip) (.seq (.ret (.ix (.call 15 (.cons (.var 0) (.cons (.tup (.cons (.lit (.bl false)) (.cons (.lit (.int 0)) .nil))) (.cons (.var 2) (.cons (.var 3) .nil))))) (.lit (.int 0)))) .skip))))))⟩
def fd_places_told : FD := ⟨3, 10, false, (.seq (.expr (.call 10 (.cons (.var 0) .nil))) (.seq (.expr (.call 11 (.cons (.var 1) .nil))) (.seq (.iff (.not (.call 0 (.cons (.var 2) (.cons (.lit (.int 0)) (.cons (.op false .Sub (.blt false .len (.cons (.var 1) .nil)) (.lit (.int 1))) .nil))))) (.seq (.rs 5) .skip) .skip) (.seq (.par2 6 7 (.cons (.call 20 (.cons (.var 0) (.cons (.var 1) .nil))) (.cons (.rev false (.call 20 (.cons (.var 0) (.cons (.rev false (.var 1)) .nil)))) .nil))) (.seq (.asg (.nm 3) (.lc false [8, 9] (.call 18 (.cons (.ix (.var 8) (.lit (.int 0))) (.cons (.ix (.var 9) (.lit (.int 0))) .nil))) (.tp (.cn (.nm 8) (.cn (.nm 9) .nl))) (.zp (.var 6) (.var 7)) (.lit (.bl true)))) (.seq (.asg (.nm 4) (.lc false [8, 9] (.call 19 (.cons (.ix (.var 8) (.lit (.int 1))) (.cons (.ix (.var 9) (.lit (.int 1))) .nil))) (.tp (.cn (.nm 8) (.cn (.nm 9) .nl))) (.zp (.var 6) (.var 7)) (.lit (.bl true)))) (.seq (.asg (.nm 5) (.lc false [8, 9] (.lit (.int 1)) (.tp (.cn (.nm 8) (.cn (.nm 9) .nl))) (.zp (.var 3) (.var 4)) (.and (.cmp .IsNot (.var 8) (.lit .non)) (.and (.cmp .IsNot (.var 9) (.lit .non)) (.cmp .Gt (.var 8) (.var 9)))))) (.seq (.iff (.or (.cmp .NotEq (.var 5) (.lst false .nil)) (.cmp .Gt (.call 13 (.cons (.var 1) .nil)) (.ix (.var 0) (.lit (.int 2))))) (.seq (.ret (.lit .non)) .skip) .skip) (.seq (.ret (.tup (.cons (.ix (.var 3) (.var 2)) (.cons (.ix (.var 4) (.var 2)) .nil)))) .skip)))))))))⟩
def fd_law_tun : FD := ⟨2, 3, true, (.seq (.asg (.nm 2) (.ite (.cmp .Lt (.var 1) (.blt false .len (.cons (.var 0) .nil))) (.blt false .abs (.cons (.blt false .int (.cons (.ix (.var 0) (.var 1)) .nil)) .nil)) (.op false .Add (.op false .Mult (.lit (.int 109)) (.var 1)) (.lit (.int 71))))) (.seq (.ret (.lst true (.cons (.ite (.cmp .GtE (.var 2) (.op false .Pow (.lit (.int 10)) (.lit (.int 18)))) (.var 2) (.lit (.int 0))) (.cons (.op false .Mod (.blt false .int (.cons (.op false .Add (.op false .Add (.op false .Mod (.blt false .int (.cons (.var 2) .nil)) (.lit (.int 2147477807))) (.op false .Mult (.lit (.int 30197)) (.var 1))) (.lit (.int 811))) .nil)) (.lit (.int 2147477807))) .nil)))) .skip))⟩
def fd_law_scoop : FD := ⟨2, 4, false, (.seq (.iff (.cmp .Gt (.ix (.var 0) (.lit (.int 0))) (.lit (.int 0))) (.seq (.asg (.nm 3) (.op false .Mod (.blt false .int (.cons (.ix (.var 0) (.lit (.int 0))) .nil)) (.var 1))) (.seq (.sub (.var 0) (.lit (.int 0)) (.op false .FloorDiv (.blt false .int (.cons (.ix (.var 0) (.lit (.int 0))) .nil)) (.var 1))) (.seq (.ret (.var 3)) .skip))) .skip) (.seq (.sub (.var 0) (.lit (.int 1)) (.op false .Mod (.blt false .int (.cons (.op false .Add (.op false .Mult (.ix (.var 0) (.lit (.int 1))) (.lit (.int 46507))) (.lit (.int 7001))) .nil)) (.lit (.int 2147477807)))) (.seq (.asg (.nm 2) (.op false .Mod (.op false .Mult (.blt false .int (.cons (.ix (.var 0) (.lit (.int 1))) .nil)) (.op false .Add (.op false .FloorDiv (.blt false .int (.cons (.ix (.var 0) (.lit (.int 1))) .nil)) (.lit (.int 71))) (.lit (.int 53)))) (.lit (.int 2147477797)))) (.seq (.ret (.op false .Mod (.blt false .int (.cons (.op false .FloorDiv (.blt false .int (.cons (.var 2) .nil)) (.lit (.int 37))) .nil)) (.var 1))) .skip))))⟩
def fd_law_any : FD := ⟨2, 2, false, (.seq (.ret (.ix (.var 1) (.call 25 (.cons (.var 0) (.cons (.blt false .len (.cons (.var 1) .nil)) .nil))))) .skip)⟩
def fd_law_watcher : FD := ⟨2, 6, false, (.seq (.asg (.nm 2) (.call 26 (.cons (.var 0) (.cons (.lst false (.cons (.lit (.int 0)) (.cons (.lit (.int 0)) (.cons (.neg (.lit (.int 3))) (.cons (.lit (.int 7)) .nil))))) .nil)))) (.seq (.asg (.nm 3) (.op false .Add (.var 2) (.call 25 (.cons (.var 0) (.cons (.op false .Add (.var 1) (.lit (.int 1))) .nil))))) (.seq (.asg (.nm 4) (.tup (.cons (.op false .Add (.lit (.int 1)) (.call 26 (.cons (.var 0) (.cons (.lst false (.cons (.lit (.int 0)) (.cons (.lit (.int 0)) (.cons (.lit (.int 1)) (.cons (.lit (.int 2)) .nil))))) .nil)))) (.cons (.op false .Add (.lit (.int 1)) (.call 26 (.cons (.var 0) (.cons (.lst false (.cons (.lit (.int 0)) (.cons (.lit (.int 0)) (.cons (.lit (.int 1)) (.cons (.lit (.int 2)) .nil))))) .nil)))) .nil)))) (.seq (.asg (.nm 5) (.tup (.cons (.call 26 (.cons (.var 0) (.cons (.lst false (.cons (.lit (.int 0)) (.cons (.lit (.int 0)) (.cons (.lit (.int 1)) (.cons (.lit (.int 2)) (.cons (.lit (.int 3)) .nil)))))) .nil))) (.cons (.call 26 (.cons (.var 0) (.cons (.lst false (.cons (.lit (.int 0)) (.cons (.lit (.int 0)) (.cons (.lit (.int 1)) (.cons (.lit (.int 2)) (.cons (.lit (.int 3)) .nil)))))) .nil))) .nil)))) (.seq (.ret (.op false .Add (.op false .Add (.op false .Add (.tup (.cons (.var 2) (.cons (.var 3) .nil))) (.var 5)) (.var 4)) (.tup (.cons (.call 26 (.cons (.var 0) (.cons (.lst false (.cons (.lit (.str (Str.ofString "keep"))) (.cons (.lit (.str (Str.ofString "drop"))) .nil))) .nil))) .nil)))) .skip)))))⟩
def fd_law_world : FD := ⟨1, 1, false, (.seq (.ret (.tup (.cons (.call 26 (.cons (.var 0) (.cons (.lst false (.cons (.lit (.int 0)) (.cons (.lit (.int 1)) (.cons (.lit (.int 1)) (.cons (.lit (.int 2)) .nil))))) .nil))) (.cons (.call 26 (.cons (.var 0) (.cons (.lst false (.cons (.lit (.int 0)) (.cons (.lit (.int 0)) (.cons (.lit (.int 1)) (.cons (.lit (.int 2)) .nil))))) .nil))) (.cons (.call 26 (.cons (.var 0) (.cons (.lst false (.cons (.lit (.int 0)) (.cons (.lit (.int 0)) (.cons (.lit (.int 1)) (.cons (.lit (.int 2)) .nil))))) .nil))) .nil))))) .skip)⟩
def fd_law_deep : FD := ⟨2, 2, false, (.seq (.ret (.blt false .min (.cons (.op false .Sub (.var 1) (.ix (.var 0) (.lit (.int 0)))) (.cons (.op false .Sub (.ix (.var 0) (.lit (.int 1))) (.var 1)) .nil)))) .skip)⟩
def fd_law_word : FD := ⟨2, 2, false, (.seq (.iff (.cmp .Is (.var 1) (.lit .non)) (.seq (.ret (.lit (.str (Str.ofString "lost")))) .skip) .skip) (.seq (.iff (.chn .LtE .LtE (.op false .Add (.ix (.var 0) (.lit (.int 0))) (.ix (.var 0) (.lit (.int 2)))) (.var 1) (.op false .Sub (.ix (.var 0) (.lit (.int 1))) (.ix (.var 0) (.lit (.int 2))))) (.seq (.ret (.lit (.str (Str.ofString "in")))) .skip) .skip) (.seq (.iff (.chn .LtE .LtE (.op false .Sub (.ix (.var 0) (.lit (.int 0))) (.ix (.var 0) (.lit (.int 3)))) (.var 1) (.op false .Add (.ix (.var 0) (.lit (.int 1))) (.ix (.var 0) (.lit (.int 3))))) (.seq (.ret (.lit (.str (Str.ofString "edge")))) .skip) .skip) (.seq (.ret (.lit (.str (Str.ofString "out")))) .skip))))⟩
def fd_law_onward : FD := ⟨3, 6, false, (.seq (.asg (.tp (.cn (.tp (.cn (.nm 4) (.cn (.nm 5) .nl))) (.cn (.nm 3) .nl))) (.tup (.cons (.var 1) (.cons (.call 30 (.cons (.var 0) (.cons (.var 2) .nil))) .nil)))) (.seq (.iff (.and (.cmp .Eq (.var 3) (.lit (.str (Str.ofString "lost")))) (.cmp .Eq (.ix (.var 0) (.lit (.int 6))) (.lit (.str (Str.ofString "keep"))))) (.seq (.ret (.tup (.cons (.var 1) (.cons (.lit .non) .nil)))) .skip) .skip) (.seq (.iff (.cmp .NotEq (.var 3) (.ite (.var 4) (.lit (.str (Str.ofString "out"))) (.lit (.str (Str.ofString "in"))))) (.seq (.ret (.tup (.cons (.tup (.cons (.var 4) (.cons (.lit (.int 0)) .nil))) (.cons (.lit .non) .nil)))) .skip) .skip) (.seq (.iff (.cmp .Lt (.op false .Add (.var 5) (.lit (.int 1))) (.ite (.var 4) (.ix (.var 0) (.lit (.int 5))) (.ix (.var 0) (.lit (.int 4))))) (.seq (.ret (.tup (.cons (.tup (.cons (.var 4) (.cons (.op false .Add (.var 5) (.lit (.int 1))) .nil))) (.cons (.lit .non) .nil)))) .skip) .skip) (.seq (.ret (.tup (.cons (.tup (.cons (.not (.var 4)) (.cons (.lit (.int 0)) .nil))) (.cons (.ite (.var 4) (.lit (.str (Str.ofString "gone"))) (.lit (.str (Str.ofString "come")))) .nil)))) .skip)))))⟩
def fd_law_trip : FD := ⟨4, 10, false, (.seq (.par3 6 7 8 (.cons (.lit (.int 0)) (.cons (.lst true .nil) (.cons (.lst true .nil) .nil)))) (.seq (.asg (.nm 4) (.call 26 (.cons (.var 0) (.cons (.lst false (.cons (.ix (.var 1) (.lit (.int 0))) (.cons (.op false .Add (.ix (.var 1) (.lit (.int 1))) (.lit (.int 1))) (.cons (.op false .Sub (.ix (.var 1) (.lit (.int 0))) (.lit (.int 2))) .nil)))) .nil)))) (.seq (.for_ (.nm 5) (.rg1 (.var 3)) (.seq (.asg (.nm 4) (.op false .Sub (.op false .Add (.var 4) (.call 25 (.cons (.var 0) (.cons (.op false .Add (.op false .Mult (.lit (.int 2)) (.ix (.var 2) (.lit (.int 0)))) (.lit (.int 1))) .nil)))) (.ix (.var 2) (.lit (.int 0))))) (.seq (.iff (.and (.cmp .Lt (.var 6) (.ix (.var 2) (.lit (.int 2)))) (.cmp .Eq (.call 25 (.cons (.var 0) (.cons (.lit (.int 3)) .nil))) (.lit (.int 0)))) (.seq (.par2 6 9 (.cons (.op false .Add (.var 6) (.lit (.int 1))) (.cons (.lit .non) .nil))) .skip) (.seq (.par2 6 9 (.cons (.lit (.int 0)) (.cons (.op false .Sub (.op false .Add (.var 4) (.call 25 (.cons (.var 0) (.cons (.op false .Add (.op false .Mult (.lit (.int 2)) (.ix (.var 2) (.lit (.int 1)))) (.lit (.int 1))) .nil)))) (.ix (.var 2) (.lit (.int 1)))) .nil))) .skip)) (.seq (.app (.var 7) (.var 4)) (.seq (.app (.var 8) (.var 9)) .skip))))) (.seq (.ret (.tup (.cons (.blt false .tuple (.cons (.var 7) .nil)) (.cons (.blt false .tuple (.cons (.var 8) .nil)) .nil)))) .skip))))⟩
def fd_law_go : FD := ⟨3, 5, false, (.seq (.asg (.nm 3) (.lit (.int 0))) (.seq (.for_ (.nm 4) (.rg1 (.blt false .len (.cons (.var 1) .nil))) (.seq (.iff (.and (.cmp .Gt (.var 4) (.lit (.int 0))) (.cmp .Gt (.blt false .abs (.cons (.op false .Sub (.ix (.var 1) (.var 4)) (.ix (.var 1) (.op false .Sub (.var 4) (.lit (.int 1))))) .nil)) (.ix (.var 0) (.lit (.int 0))))) (.seq (.ret (.lit (.bl false))) .skip) .skip) (.seq (.asg (.nm 3) (.ite (.cmp .Is (.ix (.var 2) (.var 4)) (.lit .non)) (.op false .Add (.var 3) (.lit (.int 1))) (.lit (.int 0)))) (.seq (.iff (.or (.cmp .Gt (.var 3) (.ix (.var 0) (.lit (.int 2)))) (.and (.cmp .IsNot (.ix (.var 2) (.var 4)) (.lit .non)) (.cmp .Gt (.blt false .abs (.cons (.op false .Sub (.ix (.var 2) (.var 4)) (.ix (.var 1) (.var 4))) .nil)) (.ix (.var 0) (.lit (.int 1)))))) (.seq (.ret (.lit (.bl false))) .skip) .skip) .skip)))) (.seq (.ret (.cmp .Eq (.blt false .len (.cons (.var 1) .nil)) (.blt false .len (.cons (.var 2) .nil)))) .skip)))⟩
def fd_law_spots : FD := ⟨4, 10, false, (.seq (.asg (.tp (.cn (.nm 5) (.cn (.nm 6) .nl))) (.tup (.cons (.lst true .nil) (.cons (.lrg false (.var 2) (.op false .Add (.var 3) (.lit (.int 1)))) .nil)))) (.seq (.for_ (.nm 4) (.sq (.var 1)) (.seq (.iff (.cmp .NotEq (.var 5) (.lst false .nil)) (.seq (.asg (.nm 7) (.lrg false (.var 2) (.op false .Add (.var 3) (.lit (.int 1))))) (.seq (.asg (.nm 6) (.lc false [8] (.var 8) (.nm 8) (.sq (.var 7)) (.cmp .LtE (.blt false .min (.cons (.op false .Add (.lc false [9] (.blt false .abs (.cons (.op false .Sub (.var 9) (.var 8)) .nil)) (.nm 9) (.sq (.var 6)) (.lit (.bl true))) (.lst false (.cons (.lit (.int 99)) .nil))) .nil)) (.ix (.var 0) (.lit (.int 0)))))) .skip)) .skip) (.seq (.iff (.cmp .IsNot (.var 4) (.lit .non)) (.seq (.asg (.nm 6) (.lc false [8] (.var 8) (.nm 8) (.sq (.var 6)) (.cmp .LtE (.blt false .abs (.cons (.op false .Sub (.var 8) (.var 4)) .nil)) (.ix (.var 0) (.lit (.int 1)))))) .skip) .skip) (.seq (.app (.var 5) (.var 6)) .skip)))) (.seq (.ret (.var 5)) .skip)))⟩
def fd_law_due : FD := ⟨3, 16, false, (.seq (.asg (.nm 3) (.lc false [4] (.var 4) (.nm 4) (.sq (.var 1)) (.cmp .IsNot (.var 4) (.lit .non)))) (.seq (.asg (.tp (.cn (.nm 9) (.cn (.nm 10) .nl))) (.tup (.cons (.lit (.int 0)) (.cons (.lit (.int 0)) .nil)))) (.seq (.for_ (.nm 4) (.sq (.var 1)) (.seq (.asg (.nm 9) (.ite (.cmp .Is (.var 4) (.lit .non)) (.op false .Add (.var 9) (.lit (.int 1))) (.lit (.int 0)))) (.seq (.asg (.nm 10) (.blt false .max (.cons (.var 10) (.cons (.var 9) .nil)))) .skip))) (.seq (.iff (.cmp .Gt (.var 10) (.ix (.var 0) (.lit (.int 2)))) (.seq (.ret (.lit .non)) .skip) .skip) (.seq (.iff (.cmp .Eq (.var 3) (.lst false .nil)) (.seq (.ret (.tup (.cons (.lit .non) (.cons (.lit .non) .nil)))) .skip) .skip) (.seq (.asg (.nm 5) (.op false .Add (.op false .Mult (.ix (.var 0) (.lit (.int 0))) (.blt false .len (.cons (.var 1) .nil))) (.ix (.var 0) (.lit (.int 1))))) (.seq (.par2 11 12 (.cons (.op false .Sub (.blt false .min (.cons (.var 3) .nil)) (.var 5)) (.cons (.op false .Add (.blt false .max (.cons (.var 3) .nil)) (.var 5)) .nil))) (.seq (.asg (.nm 6) (.call 34 (.cons (.var 0) (.cons (.var 1) (.cons (.var 11) (.cons (.var 12) .nil)))))) (.seq (.asg (.nm 7) (.rev false (.call 34 (.cons (.var 0) (.cons (.rev false (.var 1)) (.cons (.var 11) (.cons (.var 12) .nil))))))) (.seq (.asg (.nm 8) (.lc false [14, 15] (.lc false [13] (.var 13) (.nm 13) (.sq (.var 14)) (.cmp .In (.var 13) (.var 15))) (.tp (.cn (.nm 14) (.cn (.nm 15) .nl))) (.zp (.var 6) (.var 7)) (.lit (.bl true)))) (.seq (.iff (.cmp .In (.lst false .nil) (.var 8)) (.seq (.ret (.lit .non)) .skip) .skip) (.seq (.ret (.tup (.cons (.blt false .min (.cons (.ix (.var 8) (.var 2)) .nil)) (.cons (.blt false .max (.cons (.ix (.var 8) (.var 2)) .nil)) .nil)))) .skip))))))))))))⟩
def fd_law_trip_right : FD := ⟨3, 15, false, (.seq (.asg (.tp (.cn (.nm 6) (.cn (.nm 7) .nl))) (.call 32 (.cons (.var 0) (.cons (.var 1) (.cons (.var 2) (.cons (.call 25 (.cons (.var 0) (.cons (.lit (.int 9)) .nil))) .nil)))))) (.seq (.asg (.tp (.cn (.nm 8) (.cn (.nm 9) .nl))) (.tup (.cons (.tup (.cons (.lit (.bl false)) (.cons (.lit (.int 0)) .nil))) (.cons (.lit (.int 0)) .nil)))) (.seq (.for_ (.tp (.cn (.nm 10) (.cn (.nm 11) .nl))) (.zp (.var 6) (.var 7)) (.seq (.asg (.nm 8) (.ix (.call 31 (.cons (.var 1) (.cons (.var 8) (.cons (.var 11) .nil)))) (.lit (.int 0)))) (.seq (.asg (.nm 9) (.op false .Add (.var 9) (.ite (.cmp .NotEq (.ix (.var 8) (.lit (.int 0))) (.cmp .GtE (.call 29 (.cons (.var 1) (.cons (.var 10) .nil))) (.lit (.int 0)))) (.lit (.int 1)) (.lit (.int 0))))) .skip))) (.seq (.iff (.cmp .IsNot (.call 21 (.cons (.var 2) (.cons (.var 6) (.cons (.var 7) .nil)))) (.lit (.bl true))) (.seq (.ret (.lit (.bl false))) .skip) .skip) (.seq (.iff (.cmp .NotEq (.call 22 (.cons (.var 1) (.cons (.var 2) (.cons (.var 6) (.cons (.var 7) .nil))))) (.var 9)) (.seq (.ret (.lit (.bl false))) .skip) .skip) (.seq (.iff (.cmp .Eq (.var 6) (.tup .nil)) (.seq (.ret (.lit (.bl true))) .skip) .skip) (.seq (.par2 12 13 (.cons (.call 25 (.cons (.var 0) (.cons (.blt false .len (.cons (.var 6) .nil)) .nil))) (.cons (.call 26 (.cons (.var 0) (.cons (.lst false (.cons (.lit (.int 1)) (.cons (.neg (.lit (.int 1))) (.cons (.lit (.int 4)) .nil)))) .nil))) .nil))) (.seq (.asg (.nm 3) (.ite (.cmp .Is (.ix (.var 7) (.var 12)) (.lit .non)) (.lit .non) (.op false .Add (.ix (.var 7) (.var 12)) (.var 13)))) (.seq (.asg (.nm 4) (.op false .Add (.op false .Add (.sl false (.var 7) .nil (.var 12)) (.tup (.cons (.var 3) .nil))) (.sl false (.var 7) (.op false .Add (.var 12) (.lit (.int 1))) .nil))) (.seq (.iff (.cmp .NotEq (.call 21 (.cons (.var 2) (.cons (.var 6) (.cons (.var 4) .nil)))) (.call 33 (.cons (.var 2) (.cons (.var 6) (.cons (.var 4) .nil))))) (.seq (.ret (.lit (.bl false))) .skip) .skip) (.seq (.for_ (.nm 5) (.sq (.lst false (.cons (.var 7) (.cons (.var 4) .nil)))) (.seq (.for_ (.nm 14) (.rg1 (.blt false .len (.cons (.var 5) .nil))) (.seq (.iff (.cmp .NotEq (.call 23 (.cons (.var 2) (.cons (.var 5) (.cons (.var 14) .nil)))) (.call 35 (.cons (.var 2) (.cons (.var 5) (.cons (.var 14) .nil))))) (.seq (.ret (.lit (.bl false))) .skip) .skip) .skip)) .skip)) (.seq (.ret (.lit (.bl true))) .skip))))))))))))⟩
def fd_law : FD := ⟨1, 9, false, (.seq (.for_ (.nm 1) (.rg1 (.blt false .max (.cons (.lit (.int 4)) (.cons (.blt false .min (.cons (.lit (.int 12)) (.cons (.op false .Add (.blt false .len (.cons (.var 0) .nil)) (.lit (.int 3))) .nil))) .nil)))) (.seq (.asg (.nm 3) (.call 24 (.cons (.var 0) (.cons (.var 1) .nil)))) (.seq (.for_ (.nm 4) (.rg1 (.lit (.int 2))) (.seq (.asg (.tp (.cn (.nm 8) (.cn (.nm 6) .nl))) (.tup (.cons (.call 27 (.cons (.var 3) (.cons (.lit (.int 6)) .nil))) (.cons (.call 28 (.cons (.var 3) .nil)) .nil)))) (.seq (.iff (.not (.call 36 (.cons (.var 3) (.cons (.var 8) (.cons (.var 6) .nil))))) (.seq (.ret (.lit (.bl false))) .skip) .skip) (.seq (.for_ (.nm 7) (.sq (.lst false (.cons (.lit .non) (.cons (.tup (.cons (.lit (.int 0)) (.cons (.op false .Add (.ix (.var 6) (.lit (.int 0))) (.lit (.int 1))) .nil))) (.cons (.lst false (.cons (.lit (.int 0)) .nil)) (.cons (.op false .Mult (.tup (.cons (.lit (.int 0)) .nil)) (.lit (.int 101))) (.cons (.tup (.cons (.lit (.str (Str.ofString "0"))) .nil)) .nil))))))) (.seq (.iff (.cmp .NotEq (.lam 0 (.callL 21 (.cons (.var 6) (.cons (.var 7) (.cons (.lit .non) .nil))))) (.lit (.str (Str.ofString "walk")))) (.seq (.ret (.lit (.bl false))) .skip) .skip) (.seq (.iff (.cmp .NotEq (.lam 0 (.callL 22 (.cons (.var 8) (.cons (.var 6) (.cons (.var 7) (.cons (.lit .non) .nil)))))) (.lit (.str (Str.ofString "walk")))) (.seq (.ret (.lit (.bl false))) .skip) .skip) .skip))) (.seq (.for_ (.nm 7) (.sq (.lst false (.cons (.lit .non) (.cons (.lst false (.cons (.lit (.int 0)) .nil)) (.cons (.tup (.cons (.lit (.bl true)) .nil)) (.cons (.op false .Mult (.tup (.cons (.lit (.int 0)) .nil)) (.lit (.int 101))) .nil)))))) (.seq (.iff (.cmp .NotEq (.lam 0 (.callL 21 (.cons (.var 6) (.cons (.tup (.cons (.lit (.int 0)) .nil)) (.cons (.var 7) .nil))))) (.lit (.str (Str.ofString "looks")))) (.seq (.ret (.lit (.bl false))) .skip) .skip) .skip)) (.seq (.for_ (.nm 7) (.sq (.lst false (.cons (.lit .non) (.cons (.neg (.lit (.int 1))) (.cons (.lit (.int 2)) (.cons (.lit (.bl true)) .nil)))))) (.seq (.iff (.cmp .NotEq (.lam 0 (.callL 23 (.cons (.var 6) (.cons (.tup (.cons (.lit (.int 0)) (.cons (.lit (.int 0)) .nil))) (.cons (.var 7) .nil))))) (.lit (.str (Str.ofString "index")))) (.seq (.ret (.lit (.bl false))) .skip) .skip) .skip)) .skip)))))) .skip))) (.seq (.asg (.tp (.cn (.nm 5) (.cn (.nm 6) .nl))) (.tup (.cons (.tup (.cons (.lit (.int 0)) (.cons (.lit (.int 20)) (.cons (.lit (.int 0)) (.cons (.lit (.int 0)) (.cons (.lit (.int 1)) (.cons (.lit (.int 1)) (.cons (.lit (.str (Str.ofString "keep"))) .nil)))))))) (.cons (.tup (.cons (.lit (.int 2)) (.cons (.lit (.int 1)) (.cons (.lit (.int 1)) .nil)))) .nil)))) (.seq (.iff (.cmp .NotEq (.lam 0 (.callL 22 (.cons (.var 5) (.cons (.var 6) (.cons (.tup (.cons (.lit (.int 0)) (.cons (.lit (.int 1)) .nil))) (.cons (.tup (.cons (.lit (.int 0)) .nil)) .nil)))))) (.lit (.str (Str.ofString "looks")))) (.seq (.ret (.lit (.bl false))) .skip) .skip) (.seq (.asg (.nm 2) (.lst false (.cons (.call 21 (.cons (.var 6) (.cons (.tup (.cons (.lit (.int 0)) (.cons (.lit (.int 2)) (.cons (.lit (.int 1)) .nil)))) (.cons (.tup (.cons (.lit (.int 1)) (.cons (.lit .non) (.cons (.lit (.int 0)) .nil)))) .nil)))) (.cons (.call 21 (.cons (.var 6) (.cons (.tup (.cons (.lit (.int 0)) (.cons (.lit (.int 2)) (.cons (.lit (.int 1)) .nil)))) (.cons (.tup (.cons (.lit .non) (.cons (.lit .non) (.cons (.lit (.int 0)) .nil)))) .nil)))) .nil)))) (.seq (.iff (.cmp .NotEq (.op false .Add (.var 2) (.lst false (.cons (.call 21 (.cons (.var 6) (.cons (.tup (.cons (.lit (.int 0)) (.cons (.lit (.int 2)) .nil))) (.cons (.tup (.cons (.lit (.int 2)) (.cons (.lit (.int 2)) .nil))) .nil)))) .nil))) (.lst false (.cons (.lit (.bl true)) (.cons (.lit (.bl false)) (.cons (.lit (.bl false)) .nil))))) (.seq (.ret (.lit (.bl false))) .skip) .skip) (.seq (.iff (.cmp .NotEq (.call 22 (.cons (.tup (.cons (.lit (.int 0)) (.cons (.lit (.int 20)) (.cons (.lit (.int 2)) (.cons (.lit (.int 1)) (.cons (.lit (.int 2)) (.cons (.lit (.int 2)) (.cons (.lit (.str (Str.ofString "keep"))) .nil)))))))) (.cons (.tup (.cons (.lit (.int 1)) (.cons (.lit (.int 0)) (.cons (.lit (.int 0)) .nil)))) (.cons (.tup (.cons (.lit (.int 1)) (.cons (.lit (.int 2)) (.cons (.lit (.int 3)) .nil)))) (.cons (.tup (.cons (.lit (.int 1)) (.cons (.lit (.int 2)) (.cons (.lit (.int 3)) .nil)))) .nil))))) (.lit (.int 2))) (.seq (.ret (.lit (.bl false))) .skip) .skip) (.seq (.asg (.nm 2) (.lst false (.cons (.call 23 (.cons (.var 6) (.cons (.tup (.cons (.lit (.int 5)) (.cons (.lit .non) (.cons (.lit (.int 8)) .nil)))) (.cons (.lit (.int 0)) .nil)))) (.cons (.call 23 (.cons (.var 6) (.cons (.tup (.cons (.lit (.int 5)) (.cons (.lit .non) (.cons (.lit (.int 8)) .nil)))) (.cons (.lit (.int 1)) .nil)))) .nil)))) (.seq (.asg (.nm 2) (.op false .Add (.var 2) (.lst false (.cons (.call 23 (.cons (.var 6) (.cons (.tup (.cons (.lit (.int 0)) (.cons (.lit (.int 9)) .nil))) (.cons (.lit (.int 0)) .nil)))) (.cons (.call 23 (.cons (.var 6) (.cons (.tup (.cons (.lit .non) (.cons (.lit (.int 4)) .nil))) (.cons (.lit (.int 0)) .nil)))) .nil))))) (.seq (.iff (.or (.cmp .NotEq (.var 2) (.lst false (.cons (.tup (.cons (.lit (.int 4)) (.cons (.lit (.int 6)) .nil))) (.cons (.tup (.cons (.lit (.int 5)) (.cons (.lit (.int 8)) .nil))) (.cons (.lit .non) (.cons (.tup (.cons (.lit (.int 1)) (.cons (.lit (.int 7)) .nil))) .nil)))))) (.cmp .NotEq (.call 23 (.cons (.var 6) (.cons (.tup (.cons (.lit .non) .nil)) (.cons (.lit (.int 0)) .nil)))) (.tup (.cons (.lit .non) (.cons (.lit .non) .nil))))) (.seq (.ret (.lit (.bl false))) .skip) .skip) (.seq (.ret (.and (.cmp .Eq (.call 23 (.cons (.tup (.cons (.lit (.int 1)) (.cons (.lit (.int 0)) (.cons (.lit (.int 0)) .nil)))) (.cons (.tup (.cons (.lit (.int 4)) (.cons (.lit (.int 5)) .nil))) (.cons (.lit (.int 1)) .nil)))) (.tup (.cons (.lit (.int 5)) (.cons (.lit (.int 5)) .nil)))) (.cmp .Is (.call 23 (.cons (.tup (.cons (.lit (.int 1)) (.cons (.lit (.int 0)) (.cons (.lit (.int 0)) .nil)))) (.cons (.tup (.cons (.lit .non) (.cons (.lit (.int 5)) .nil))) (.cons (.lit (.int 1)) .nil)))) (.lit .non)))) .skip))))))))))⟩
abbrev i_is_from : Nat := 0
abbrev i_is_good_watcher : Nat := 1
abbrev i_is_good_world : Nat := 2
abbrev i_is_look : Nat := 3
abbrev i_are_looks : Nat := 4
abbrev i_depth_of : Nat := 5
abbrev i_word_at : Nat := 6
abbrev i_look_word : Nat := 7
abbrev i_stepped : Nat := 8
abbrev i_need_watcher : Nat := 9
abbrev i_need_world : Nat := 10
abbrev i_need_looks : Nat := 11
abbrev i_is_good_walk : Nat := 12
abbrev i_lost_runs : Nat := 13
abbrev i_goes : Nat := 14
abbrev i_wrongs : Nat := 15
abbrev i_need_walk : Nat := 16
abbrev i_moved_by : Nat := 17
abbrev i_greater : Nat := 18
abbrev i_lesser : Nat := 19
abbrev i_ranges : Nat := 20
abbrev i_go_with : Nat := 21
abbrev i_wrong_looks : Nat := 22
abbrev i_places_told : Nat := 23
abbrev i_law_tun : Nat := 24
abbrev i_law_scoop : Nat := 25
abbrev i_law_any : Nat := 26
abbrev i_law_watcher : Nat := 27
abbrev i_law_world : Nat := 28
abbrev i_law_deep : Nat := 29
abbrev i_law_word : Nat := 30
abbrev i_law_onward : Nat := 31
abbrev i_law_trip : Nat := 32
abbrev i_law_go : Nat := 33
abbrev i_law_spots : Nat := 34
abbrev i_law_due : Nat := 35
abbrev i_law_trip_right : Nat := 36
abbrev i_law : Nat := 37
def fds : List FD := [fd_is_from, fd_is_good_watcher, fd_is_good_world, fd_is_look, fd_are_looks, fd_depth_of, fd_word_at, fd_look_word, fd_stepped, fd_need_watcher, fd_need_world, fd_need_looks, fd_is_good_walk, fd_lost_runs, fd_goes, fd_wrongs, fd_need_walk, fd_moved_by, fd_greater, fd_lesser, fd_ranges, fd_go_with, fd_wrong_looks, fd_places_told, fd_law_tun, fd_law_scoop, fd_law_any, fd_law_watcher, fd_law_world, fd_law_deep, fd_law_word, fd_law_onward, fd_law_trip, fd_law_go, fd_law_spots, fd_law_due, fd_law_trip_right, fd_law]
def cvals : Nat → T := fun c => match c with
  | 0 => (.int 100000000000000000000000000000000)
  | _ => .non
def lams : Nat → Option (List (Nat × T) × T) := fun j => match j with
  | 0 => some ([(4, .str (Str.ofString "walk")), (3, .str (Str.ofString "looks")), (5, .str (Str.ofString "index"))], .str (Str.ofString "none"))
  | _ => none
def prg : Prg := ⟨fun f => fds[f]?, cvals, lams, 100000⟩
def lw : LW := ⟨[⟨"is_from", top 9, ["value", "low", "high"], ["value", "low", "high"], fd_is_from, false⟩,
  ⟨"is_good_watcher", top 10, ["value", "margin", "many", "edge"], ["value"], fd_is_good_watcher, false⟩,
  ⟨"is_good_world", top 11, ["value", "part"], ["value"], fd_is_good_world, false⟩,
  ⟨"is_look", top 12, ["value"], ["value"], fd_is_look, false⟩,
  ⟨"are_looks", top 13, ["value", "look"], ["value"], fd_are_looks, false⟩,
  ⟨"depth_of", top 14, ["watcher", "place"], ["watcher", "place"], fd_depth_of, false⟩,
  ⟨"word_at", top 15, ["watcher", "deep_so"], ["watcher", "deep_so"], fd_word_at, false⟩,
  ⟨"look_word", top 16, ["watcher", "look"], ["watcher", "look"], fd_look_word, false⟩,
  ⟨"stepped", top 17, ["watcher", "stand", "word", "within", "row"], ["watcher", "stand", "word"], fd_stepped, false⟩,
  ⟨"need_watcher", top 18, ["value"], ["value"], fd_need_watcher, false⟩,
  ⟨"need_world", top 19, ["value"], ["value"], fd_need_world, false⟩,
  ⟨"need_looks", top 20, ["value"], ["value"], fd_need_looks, false⟩,
  ⟨"is_good_walk", top 22, ["world", "value", "one", "other", "place"], ["world", "value"], fd_is_good_walk, false⟩,
  ⟨"lost_runs", top 23, ["looks", "look", "found", "here"], ["looks"], fd_lost_runs, false⟩,
  ⟨"goes", top 24, ["world", "walk", "looks", "place", "look"], ["world", "walk", "looks"], fd_goes, false⟩,
  ⟨"wrongs", top 25, ["watcher", "stand", "walk", "looks", "found", "place", "look", "word"], ["watcher", "stand", "walk", "looks"], fd_wrongs, false⟩,
  ⟨"need_walk", top 26, ["world", "value"], ["world", "value"], fd_need_walk, false⟩,
  ⟨"moved_by", top 27, ["bound", "by"], ["bound", "by"], fd_moved_by, false⟩,
  ⟨"greater", top 28, ["one", "other"], ["one", "other"], fd_greater, false⟩,
  ⟨"lesser", top 29, ["one", "other"], ["one", "other"], fd_lesser, false⟩,
  ⟨"ranges", top 30, ["world", "looks", "look", "found", "low", "high"], ["world", "looks"], fd_ranges, false⟩,
  ⟨"go_with", top 31, ["world", "walk", "looks"], ["world", "walk", "looks"], fd_go_with, false⟩,
  ⟨"wrong_looks", top 32, ["watcher", "world", "walk", "looks"], ["watcher", "world", "walk", "looks"], fd_wrong_looks, false⟩,
  ⟨"places_told", top 33, ["world", "looks", "index", "low", "high", "bad", "ahead", "behind", "one", "other"], ["world", "looks", "index"], fd_places_told, false⟩,
  ⟨"_law_tun", top 35, ["_law_script", "_law_k", "_law_cell"], ["_law_script", "_law_k"], fd_law_tun, false⟩,
  ⟨"_law_scoop", top 36, ["_law_tun_here", "_law_wide", "_law_stirred", "_law_found"], ["_law_tun_here", "_law_wide"], fd_law_scoop, false⟩,
  ⟨"_law_any", top 37, ["_law_tun_here", "_law_things"], ["_law_tun_here", "_law_things"], fd_law_any, false⟩,
  ⟨"_law_watcher", top 38, ["_law_tun_here", "_law_wide", "_law_low", "_law_high", "_law_rows_so", "_law_margins"], ["_law_tun_here", "_law_wide"], fd_law_watcher, false⟩,
  ⟨"_law_world", top 39, ["_law_tun_here"], ["_law_tun_here"], fd_law_world, false⟩,
  ⟨"_law_deep", top 40, ["_law_watcher_so", "_law_place"], ["_law_watcher_so", "_law_place"], fd_law_deep, false⟩,
  ⟨"_law_word", top 41, ["_law_watcher_so", "_law_look"], ["_law_watcher_so", "_law_look"], fd_law_word, false⟩,
  ⟨"_law_onward", top 42, ["_law_watcher_so", "_law_stand_so", "_law_look", "_law_word_here", "_law_within_so", "_law_row"], ["_law_watcher_so", "_law_stand_so", "_law_look"], fd_law_onward, false⟩,
  ⟨"_law_trip", top 43, ["_law_tun_here", "_law_watcher_so", "_law_world_so", "_law_many", "_law_here", "_law_turn", "_law_lost", "_law_walk_so", "_law_looks_so", "_law_look"], ["_law_tun_here", "_law_watcher_so", "_law_world_so", "_law_many"], fd_law_trip, false⟩,
  ⟨"_law_go", top 44, ["_law_world_so", "_law_walk_so", "_law_looks_so", "_law_run", "_law_at"], ["_law_world_so", "_law_walk_so", "_law_looks_so"], fd_law_go, false⟩,
  ⟨"_law_spots", top 45, ["_law_world_so", "_law_looks_so", "_law_least", "_law_most", "_law_look", "_law_found", "_law_here", "_law_wide", "_law_spot", "_law_other"], ["_law_world_so", "_law_looks_so", "_law_least", "_law_most"], fd_law_spots, false⟩,
  ⟨"_law_due", top 46, ["_law_world_so", "_law_looks_so", "_law_index_so", "_law_told", "_law_look", "_law_wide", "_law_ahead", "_law_back", "_law_both", "_law_run", "_law_worst", "_law_least", "_law_most", "_law_spot", "_law_first", "_law_last"], ["_law_world_so", "_law_looks_so", "_law_index_so"], fd_law_due, false⟩,
  ⟨"_law_trip_right", top 47, ["_law_tun_here", "_law_watcher_so", "_law_world_so", "_law_late", "_law_bent", "_law_some", "_law_walk_so", "_law_looks_so", "_law_stand_so", "_law_count_so", "_law_here", "_law_look", "_law_at", "_law_far", "_law_index_so"], ["_law_tun_here", "_law_watcher_so", "_law_world_so"], fd_law_trip_right, false⟩,
  ⟨"law", top 49, ["_law_script", "_law_k", "_law_found", "_law_tun_here", "_law_turn", "_law_plain", "_law_world_so", "_law_odd", "_law_watcher_so"], ["_law_script"], fd_law, true⟩], [⟨"_law_word_for", top 48, "_law_call", [(4, "walk"), (3, "looks"), (5, "index")], "none"⟩], ["FAR"], ["WatchError", "InvalidWatcher", "InvalidWorld", "InvalidLooks", "InvalidWalk", "InvalidIndex"], ["abs", "all", "bool", "int", "isinstance", "len", "list", "max", "min", "range", "str", "tuple", "zip"], prg⟩
theorem lw_tab : ∀ f, lw.prg.tab f = (lw.ds[f]?).map (·.fd) := fun f => by
  show fds[f]? = _
  have e : fds = lw.ds.map (·.fd) := rfl
  rw [e, List.getElem?_map]
theorem lw_ok : lw.ds.all lw.okD = true := by decide +kernel
theorem lw_okL : lw.ls.all lw.okL = true := by decide +kernel
end Fw

namespace Fw
open PySem L2 PyProof.Rows
/-! ## tun, scoop, any -/
theorem tun_ok (n : Nat) (k : Nat) (S : Sto) (ns : List Int) : ∃ S', runO prg (n + 1) i_law_tun [.scr ns, .int k] S = some (.ok (.box S.length) (S ++ [S'])) ∧ ∃ a b : Int, S' = .lst [.int a, .int b] ∧ 0 ≤ a ∧ 0 ≤ b ∧ b < 2147477807 := by
  rw [run_succ prg n i_law_tun _ S fd_law_tun rfl rfl]
  have hp : bop .Pow (.int 10) (.int 18) = some (.int 1000000000000000000) := by simp [bop]
  have fin : ∀ c : Int, 0 ≤ c → ∃ S', (some (Out.ok (T.box S.length) (S ++ [Ob.lst [if (1000000000000000000:Int) ≤ c then T.int c else T.int 0, T.int ((c % 2147477807 + 30197 * k + 811) % 2147477807)]])) : Res) = some (.ok (.box S.length) (S ++ [S'])) ∧ ∃ a b : Int, S' = .lst [.int a, .int b] ∧ 0 ≤ a ∧ 0 ≤ b ∧ b < 2147477807 := by
    intro c hc
    refine ⟨_, rfl, (if (1000000000000000000:Int) ≤ c then c else 0), ((c % 2147477807 + 30197 * k + 811) % 2147477807), ?_, ?_, Int.emod_nonneg _ (by decide), Int.emod_lt_of_pos _ (by decide)⟩
    · split <;> rfl
    · split <;> omega
  by_cases hk : (k : Int) < ns.length
  · have hk' : k < ns.length := by omega
    have e : ixT S (.scr ns) (.int k) = some (.int ns[k]) := by
      simp [ixT, atI_k ns k hk', List.getElem?_eq_getElem hk']
    obtain ⟨c, hc⟩ : ∃ c : Int, c = (if ns[k] < 0 then -ns[k] else ns[k]) := ⟨_, rfl⟩
    have hc0 : 0 ≤ c := by subst hc; split <;> omega
    obtain ⟨S', e1, e2⟩ := fin c hc0
    refine ⟨S', ?_, e2⟩
    rw [← e1]
    by_cases h18 : (1000000000000000000:Int) ≤ c
    · simp [fd_law_tun, init, hk', e, bindT, hp, bo_mod_s, bo_mulL, small64, line, h18, ← hc]
    · simp [fd_law_tun, init, hk', e, bindT, hp, bo_mod_s, bo_mulL, small64, line, h18, ← hc]
  · have hk' : ¬ k < ns.length := by omega
    have hc0 : 0 ≤ 109 * (k : Int) + 71 := by omega
    obtain ⟨S', e1, e2⟩ := fin (109 * (k : Int) + 71) hc0
    refine ⟨S', ?_, e2⟩
    rw [← e1]
    by_cases h18 : (1000000000000000000:Int) ≤ 109 * (k : Int) + 71
    · simp [fd_law_tun, init, hk', bindT, hp, bo_mod_s, bo_mulL, small64, line, h18]
    · simp [fd_law_tun, init, hk', bindT, hp, bo_mod_s, bo_mulL, small64, line, h18]

theorem scoop_ok (n : Nat) (k : Nat) (S : Sto) (w : Int) (h : Tn S k) (hw : 0 < w) (hw2 : w < 1073741824) :
    ∃ r S', runO prg (n + 1) i_law_scoop [.box k, .int w] S = some (.ok (.int r) S') ∧ 0 ≤ r ∧ r < w ∧ Tw k S S' := by
  obtain ⟨a, b, h, ha, hb, hb2⟩ := h
  have hk : k < S.length := (List.getElem?_eq_some_iff.mp h).1
  rw [run_succ prg n i_law_scoop _ S fd_law_scoop rfl rfl]
  by_cases h0 : 0 < a
  · refine ⟨a % w, S.set k (.lst [.int (a / w), .int b]), ?_, Int.emod_nonneg _ (by omega), Int.emod_lt_of_pos _ hw, hk, _, _, rfl, ?_, hb, hb2⟩
    · simp [fd_law_scoop, init, ix_box h, bo_mod hw, bo_fdiv hw hw2, h0, bindT, wSub, h, ixN, fin1_le]
    · exact Int.ediv_nonneg ha (by omega)
  · have h3 : S[k]? = some (Ob.lst [T.int a, T.int b]) := h
    have c1 : 0 ≤ (b * 46507 + 7001) % 2147477807 := Int.emod_nonneg _ (by decide)
    have c2 : (b * 46507 + 7001) % 2147477807 < 2147477807 := Int.emod_lt_of_pos _ (by decide)
    obtain ⟨c, hc⟩ : ∃ c : Int, c = (b * 46507 + 7001) % 2147477807 := ⟨_, rfl⟩
    rw [← hc] at c1 c2
    have hc64 : small64 c = true := by simp [small64]; omega
    have h2 : (S.set k (.lst [.int a, .int c]))[k]? = some (.lst [.int a, .int c]) := by simp [hk]
    refine ⟨c * (c / 71 + 53) % 2147477797 / 37 % w, S.set k (.lst [.int a, .int c]), ?_, Int.emod_nonneg _ (by omega), Int.emod_lt_of_pos _ hw, hk, _, _, rfl, ha, c1, c2⟩
    have i1 : atI [T.int a, T.int b] 1 = some (.int b) := by simp [atI, ixN]
    have i2 : atI [T.int a, T.int c] 1 = some (.int c) := by simp [atI, ixN]
    simp [fd_law_scoop, init, ix_box h, ix_box h2, i1, i2, bo_mod hw, bo_mod_s, bo_fdiv, h0, bindT, wSub, h, ixN, fin1_le, bo_mulR (i := b) (j := 46507) (by decide), ← hc, bo_mulL hc64]

theorem any_ok (n : Nat) (k : Nat) (S : Sto) (l : List T) (h : Tn S k) (hl : l ≠ []) (hl2 : l.length < 1073741824) :
    ∃ t S', runO prg (n + 2) i_law_any [.box k, .lst l] S = some (.ok t S') ∧ t ∈ l ∧ Tw k S S' := by
  have hp : 0 < l.length := List.length_pos_iff.mpr hl
  obtain ⟨r, S', e, h0, h1, w⟩ := scoop_ok n k S l.length h (by omega) (by omega)
  obtain ⟨t, et, hm⟩ := atI_nat (l := l) h0 (by omega)
  refine ⟨t, S', ?_, hm, w⟩
  rw [run_succ prg (n + 1) i_law_any _ S fd_law_any rfl rfl]
  simp [fd_law_any, init, e, et, fin1_le, w.len]
end Fw

namespace Fw
open PySem L2 PyProof.Rows
/-! ## is_from, is_good_watcher -/
def pl : T → Bool
  | .non => true
  | .bl _ => true
  | .int _ => true
  | .str _ => true
  | .tup _ => true
  | .lst _ => true
  | _ => false
@[simp] theorem pl_int (i : Int) : pl (.int i) = true := id rfl
@[simp] theorem pl_str (i : Str) : pl (.str i) = true := id rfl
def isI (lo hi : Int) : T → Bool
  | .int i => decide (lo ≤ i) && decide (i ≤ hi)
  | _ => false
theorem isI_int {lo hi : Int} {t : T} (h : isI lo hi t = true) : ∃ i, t = .int i ∧ lo ≤ i ∧ i ≤ hi := by
  cases t <;> simp [isI] at h
  exact ⟨_, rfl, h⟩
theorem is_from_ok (n : Nat) (t : T) (lo hi : Int) (S : Sto) (ht : pl t = true) : runO prg (n + 1) i_is_from [t, .int lo, .int hi] S = some (.ok (.bl (isI lo hi t)) S) := by
  rw [run_succ prg n i_is_from _ S fd_is_from rfl rfl]
  cases t with
  | int i =>
    by_cases h1 : lo ≤ i
    · simp [fd_is_from, init, isiT, tyT, isI, h1]
    · simp [fd_is_from, init, isiT, tyT, isI, h1]
  | non => simp [fd_is_from, init, isiT, tyT, isI]
  | bl b => simp [fd_is_from, init, isiT, tyT, isI]
  | str b => simp [fd_is_from, init, isiT, tyT, isI]
  | tup b => simp [fd_is_from, init, isiT, tyT, isI]
  | lst b => simp [fd_is_from, init, isiT, tyT, isI]
  | _ => simp [pl] at ht
def pl2 (t : T) : Prop := pl t = true ∧ ∀ l, t = .tup l → ∀ x ∈ l, pl x = true
def isKD : T → Bool
  | .str s => (Str.ofString "keep") == s || (Str.ofString "drop") == s
  | _ => false
def leT : T → T → Bool
  | .int i, .int j => decide (i ≤ j)
  | _, _ => false
def goodW : T → Bool
  | .tup [a, b, c, d, e, f, g] => isI (-1000000000000000000000000000000) 1000000000000000000000000000000 a && isI (-1000000000000000000000000000000) 1000000000000000000000000000000 b && leT a b && isI 0 3 c && isI 0 3 d && isI 1 3 e && isI 1 3 f && isKD g
  | _ => false
theorem in_kd (S : Sto) (s : Str) (l : List T) (hl : ∀ S, drf S (.tup l) = .tup l) (e : l = [.str (Str.ofString "keep"), .str (Str.ofString "drop")]) : cop S .In (.str s) (.tup l) = some (isKD (.str s)) := by
  subst e
  simp [cop, inT, toD, toDs, PyData.depth, PyData.eqv, isKD]
theorem in_kd2 (S : Sto) (s : Str) : cop S .In (.str s) (.tup [.str (Str.ofString "keep"), .str (Str.ofString "drop")]) = some (isKD (.str s)) := in_kd S s _ (fun _ => rfl) rfl
theorem in_kdL (S : Sto) (s : Str) : cop S .In (.str s) (.lst [.str (Str.ofString "keep"), .str (Str.ofString "drop")]) = some (isKD (.str s)) := by
  simp [cop, inT, toD, toDs, PyData.depth, PyData.eqv, isKD]
@[simp] theorem pow30 : bop .Pow (.int 10) (.int 30) = some (.int 1000000000000000000000000000000) := by simp [bop]
@[simp] theorem at7 (a b c d e f g : T) : atI [a, b, c, d, e, f, g] 1 = some b ∧ atI [a, b, c, d, e, f, g] 2 = some c ∧ atI [a, b, c, d, e, f, g] 3 = some d ∧ atI [a, b, c, d, e, f, g] 4 = some e ∧ atI [a, b, c, d, e, f, g] 5 = some f ∧ atI [a, b, c, d, e, f, g] 6 = some g := by
  simp [atI, ixN]
@[simp] theorem at3 (a b c : T) : atI [a, b, c] 1 = some b ∧ atI [a, b, c] 2 = some c := by
  simp [atI, ixN]
theorem len7 {α : Type} {l : List α} (h : l.length = 7) : ∃ a b c d e f g, l = [a, b, c, d, e, f, g] := by
  match l, h with
  | [a, b, c, d, e, f, g], _ => exact ⟨a, b, c, d, e, f, g, rfl⟩
theorem len3 {α : Type} {l : List α} (h : l.length = 3) : ∃ a b c, l = [a, b, c] := by
  match l, h with
  | [a, b, c], _ => exact ⟨a, b, c, rfl⟩
theorem goodW_len {l : List T} (h : l.length ≠ 7) : goodW (.tup l) = false := by
  unfold goodW
  split
  · simp_all
  · rfl
theorem goodW_ne {t : T} (h : ∀ l, t ≠ .tup l) : goodW t = false := by
  cases t <;> first | rfl | exact absurd rfl (h _)
theorem igw_ok (n : Nat) (t : T) (S : Sto) (h2 : pl2 t) : runO prg (n + 2) i_is_good_watcher [t] S = some (.ok (.bl (goodW t)) S) := by
  rw [run_succ prg (n + 1) i_is_good_watcher _ S fd_is_good_watcher rfl rfl]
  obtain ⟨ht, hl⟩ := h2
  cases t with
  | tup l =>
    by_cases h7 : l.length = 7
    · obtain ⟨a, b, c, d, e, f, g, rfl⟩ := len7 h7
      have hp := hl _ rfl
      have ha := hp a (by simp); have hb := hp b (by simp); have hc := hp c (by simp); have hd := hp d (by simp); have he := hp e (by simp); have hf := hp f (by simp); have hg := hp g (by simp)
      cases qa : isI (-1000000000000000000000000000000) 1000000000000000000000000000000 a with
      | false => simp [fd_is_good_watcher, init, isiT, tyT, cutL, HT.sIx, lcL, lcT, bindT, wipeR, line, is_from_ok, ha, hb, boolsOf, qa, goodW]
      | true =>
      obtain ⟨i, rfl, _, _⟩ := isI_int qa
      cases qb : isI (-1000000000000000000000000000000) 1000000000000000000000000000000 b with
      | false => simp [fd_is_good_watcher, init, isiT, tyT, cutL, HT.sIx, lcL, lcT, bindT, wipeR, line, is_from_ok, ha, hb, boolsOf, qa, qb, goodW]
      | true =>
      obtain ⟨j, rfl, _, _⟩ := isI_int qb
      by_cases hij : i ≤ j
      · have hij' : ¬ j < i := by omega
        cases qc : isI 0 3 c with
        | false => simp [fd_is_good_watcher, init, isiT, tyT, cutL, HT.sIx, lcL, lcT, bindT, wipeR, line, is_from_ok, hc, hd, boolsOf, qa, qb, qc, goodW, hij', leT, hij]
        | true =>
        cases qd : isI 0 3 d with
        | false => simp [fd_is_good_watcher, init, isiT, tyT, cutL, HT.sIx, lcL, lcT, bindT, wipeR, line, is_from_ok, hc, hd, boolsOf, qa, qb, qc, qd, goodW, hij', leT, hij]
        | true =>
        cases qe : isI 1 3 e with
        | false => simp [fd_is_good_watcher, init, isiT, tyT, cutL, HT.sIx, lcL, lcT, bindT, wipeR, line, is_from_ok, hc, hd, he, hf, boolsOf, qa, qb, qc, qd, qe, goodW, hij', leT, hij]
        | true =>
        cases qf : isI 1 3 f with
        | false => simp [fd_is_good_watcher, init, isiT, tyT, cutL, HT.sIx, lcL, lcT, bindT, wipeR, line, is_from_ok, hc, hd, he, hf, boolsOf, qa, qb, qc, qd, qe, qf, goodW, hij', leT, hij]
        | true =>
        cases g with
        | str s => simp [fd_is_good_watcher, init, isiT, tyT, cutL, HT.sIx, lcL, lcT, bindT, wipeR, line, is_from_ok, hc, hd, he, hf, boolsOf, qa, qb, qc, qd, qe, qf, goodW, hij', leT, hij, in_kd2]
        | fn s => simp [pl] at hg
        | box s => simp [pl] at hg
        | scr s => simp [pl] at hg
        | _ => simp [fd_is_good_watcher, init, isiT, tyT, cutL, HT.sIx, lcL, lcT, bindT, wipeR, line, is_from_ok, hc, hd, he, hf, boolsOf, qa, qb, qc, qd, qe, qf, goodW, hij', leT, hij, isKD]
      · have hij' : j < i := by omega
        simp [fd_is_good_watcher, init, isiT, tyT, cutL, HT.sIx, lcL, lcT, bindT, wipeR, line, is_from_ok, ha, hb, boolsOf, qa, qb, goodW, hij', leT, hij]
    · have h7' : ¬ (l.length : Int) = 7 := by omega
      simp [fd_is_good_watcher, init, isiT, tyT, h7', goodW_len h7]
  | fn s => simp [pl] at ht
  | box s => simp [pl] at ht
  | scr s => simp [pl] at ht
  | _ => simp [fd_is_good_watcher, init, isiT, tyT, goodW]
end Fw

namespace Fw
open PySem L2 PyProof.Rows
/-! ## is_good_world, is_good_walk -/
def goodWd : T → Bool
  | .tup [a, b, c] => isI 0 3 a && isI 0 3 b && isI 0 2 c
  | _ => false
theorem goodWd_len {l : List T} (h : l.length ≠ 3) : goodWd (.tup l) = false := by
  unfold goodWd
  split
  · simp_all
  · rfl
theorem igd_ok (n : Nat) (t : T) (S : Sto) (hpl : pl2 t) : runO prg (n + 2) i_is_good_world [t] S = some (.ok (.bl (goodWd t)) S) := by
  rw [run_succ prg (n + 1) i_is_good_world _ S fd_is_good_world rfl rfl]
  obtain ⟨ht, hl⟩ := hpl
  cases t with
  | tup l =>
    by_cases h7 : l.length = 3
    · obtain ⟨a, b, c, rfl⟩ := len3 h7
      have hp := hl _ rfl
      have ha := hp a (by simp); have hb := hp b (by simp); have hc := hp c (by simp)
      cases qa : isI 0 3 a with
      | false => simp [fd_is_good_world, init, isiT, tyT, cutL, HT.sIx, lcL, lcT, bindT, wipeR, line, is_from_ok, ha, hb, boolsOf, qa, goodWd]
      | true =>
      cases qb : isI 0 3 b with
      | false => simp [fd_is_good_world, init, isiT, tyT, cutL, HT.sIx, lcL, lcT, bindT, wipeR, line, is_from_ok, ha, hb, boolsOf, qa, qb, goodWd]
      | true => simp [fd_is_good_world, init, isiT, tyT, cutL, HT.sIx, lcL, lcT, bindT, wipeR, line, is_from_ok, ha, hb, hc, boolsOf, qa, qb, goodWd]
    · have h7' : ¬ (l.length : Int) = 3 := by omega
      simp [fd_is_good_world, init, isiT, tyT, h7', goodWd_len h7]
  | fn s => simp [pl] at ht
  | box s => simp [pl] at ht
  | scr s => simp [pl] at ht
  | _ => simp [fd_is_good_world, init, isiT, tyT, goodWd]
theorem need_world_ok (n : Nat) (t : T) (S : Sto) (hpl : pl2 t) (hg : goodWd t = true) : runO prg (n + 3) i_need_world [t] S = some (.ok .non S) := by
  rw [run_succ prg (n + 2) i_need_world _ S fd_need_world rfl rfl]
  simp [fd_need_world, init, igd_ok, hpl, hg]
/-- a world -/
def mkWd (a b c : Int) : T := .tup [.int a, .int b, .int c]
def WdOk (a b c : Int) : Prop := 0 ≤ a ∧ a ≤ 3 ∧ 0 ≤ b ∧ b ≤ 3 ∧ 0 ≤ c ∧ c ≤ 2
theorem mkWd_pl (a b c : Int) : pl2 (mkWd a b c) := by
  refine ⟨rfl, fun l h x hx => ?_⟩
  unfold mkWd at h
  cases h
  simp at hx
  rcases hx with rfl | rfl | rfl <;> rfl
theorem mkWd_good {a b c : Int} (h : WdOk a b c) : goodWd (mkWd a b c) = true := by
  obtain ⟨h1, h2, h3, h4, h5, h6⟩ := h
  simp [goodWd, mkWd, isI, h1, h2, h3, h4, h5, h6]

def FARi : Int := 100000000000000000000000000000000
def absI (i : Int) : Int := if i < 0 then -i else i
def stepB (r : Int) : T → Bool
  | .tup [.int a, .int b] => decide (absI (a - b) ≤ r)
  | _ => true
def goodWk (r : Int) : T → Bool
  | .tup l => decide (l.length ≤ 100) && (l.all (isI (-100000000000000000000000000000000) 100000000000000000000000000000000) && (zipT l l.tail).all (stepB r))
  | _ => false
theorem all_int {lo hi : Int} : ∀ {l : List T}, l.all (isI lo hi) = true → ∃ ns : List Int, l = ns.map T.int
  | [], _ => ⟨[], rfl⟩
  | t :: l, h => by
    simp only [List.all_cons, Bool.and_eq_true] at h
    obtain ⟨i, rfl, _⟩ := isI_int h.1
    obtain ⟨ns, rfl⟩ := all_int h.2
    exact ⟨i :: ns, rfl⟩
theorem zipT_int : ∀ {a b : List Int} {x : T}, x ∈ zipT (a.map T.int) (b.map T.int) → ∃ i j, x = .tup [.int i, .int j]
  | [], _, x, h => by simp [zipT] at h
  | _ :: _, [], x, h => by simp [zipT] at h
  | i :: a, j :: b, x, h => by
    simp only [List.map_cons, zipT, List.mem_cons] at h
    rcases h with rfl | h
    · exact ⟨_, _, rfl⟩
    · exact zipT_int h
theorem cutL_1 (l : List T) : cutL l (some 1) none = l.tail := by
  cases l with
  | nil => rfl
  | cons a l =>
    simp [cutL, HT.sIx]
theorem boolsOf_map {α : Type} (f : α → Bool) : ∀ l : List α, boolsOf (l.map fun x => .bl (f x)) = some (l.map f)
  | [] => rfl
  | x :: l => by simp [boolsOf, boolsOf_map f l]
theorem filterMap_some_eq {α β : Type} (f : α → β) (l : List α) : l.filterMap (fun x => some (f x)) = l.map f := by
  induction l with
  | nil => rfl
  | cons a l ih => simp [ih]
theorem all_map_id {α : Type} (f : α → Bool) (l : List α) : (l.map f).all id = l.all f := by
  induction l with
  | nil => rfl
  | cons a l ih => simp [ih]
@[simp] theorem prg_cv : prg.cv = cvals := rfl
theorem igk_ok (n : Nat) (a b c : Int) (t : T) (S : Sto) (hpl : pl2 t) : runO prg (n + 2) i_is_good_walk [mkWd a b c, t] S = some (.ok (.bl (goodWk a t)) S) := by
  rw [run_succ prg (n + 1) i_is_good_walk _ S fd_is_good_walk rfl rfl]
  obtain ⟨ht, hl⟩ := hpl
  cases t with
  | tup l =>
    by_cases h1 : 100 < (l.length : Int)
    · have h2 : ¬ l.length ≤ 100 := by omega
      simp [fd_is_good_walk, init, isiT, tyT, goodWk, h1, h2]
    have h2 : l.length ≤ 100 := by omega
    have hp := hl _ rfl
    have e1 : lcL (lcT (evO prg (n + 1)) (IE.call i_is_from ((IE.var 4).cons ((IE.op false .Sub (IE.lit (.int 0)) (IE.cst 0)).cons ((IE.cst 0).cons IE.nil)))) (.nm 4) (.lit (.bl true)) [some (mkWd a b c), some (.tup l), none, none, none]) l [] S
        = some ([] ++ l.filterMap (fun x => some (.bl (isI (-100000000000000000000000000000000) 100000000000000000000000000000000 x))), S) := by
      refine lcL_pure (fun x hx => ?_) (by simp [line]; omega)
      simp [lcT, bindT, cvals, is_from_ok, hp x hx]
    rw [List.nil_append, filterMap_some_eq] at e1
    cases q : l.all (isI (-100000000000000000000000000000000) 100000000000000000000000000000000) with
    | false => simp [fd_is_good_walk, init, isiT, tyT, goodWk, h1, h2, wipeR, e1, boolsOf_map, all_map_id, q]
    | true =>
    obtain ⟨ns, hns⟩ := all_int q
    have e2 : lcL (lcT (evO prg (n + 1)) (IE.cmp .LtE (IE.blt false .abs ((IE.op false .Sub (IE.var 2) (IE.var 3)).cons IE.nil)) (IE.ix (IE.var 0) (IE.lit (.int 0)))) (.tp (.cn (.nm 2) (.cn (.nm 3) .nl))) (.lit (.bl true)) [some (mkWd a b c), some (.tup l), none, none, none]) (zipT l l.tail) [] S
        = some ([] ++ (zipT l l.tail).filterMap (fun x => some (.bl (stepB a x))), S) := by
      refine lcL_pure (fun x hx => ?_) (by
        rw [zipT_len]
        simp only [line, List.length_nil]; omega)
      rw [hns, ← List.map_tail] at hx
      obtain ⟨i, j, rfl⟩ := zipT_int hx
      simp [lcT, bindT, stepB, absI, mkWd]
      rfl
    rw [List.nil_append, filterMap_some_eq] at e2
    simp [fd_is_good_walk, init, isiT, tyT, goodWk, h1, h2, wipeR, e1, boolsOf_map, all_map_id, q, cutL_1, e2]
  | fn s => simp [pl] at ht
  | box s => simp [pl] at ht
  | scr s => simp [pl] at ht
  | _ => simp [fd_is_good_walk, init, isiT, tyT, goodWk]
end Fw

namespace Fw
open PySem L2 PyProof.Rows
/-! ## watchers, worlds, trips drawn -/
def mkW (a b c d e f : Int) (g : Str) : T := .tup [.int a, .int b, .int c, .int d, .int e, .int f, .str g]
def WOk (w : Int) (a b c d e f : Int) (g : Str) : Prop := -3 ≤ a ∧ a ≤ 7 ∧ a ≤ b ∧ b ≤ a + w ∧ 0 ≤ c ∧ c ≤ 3 ∧ 0 ≤ d ∧ d ≤ 3 ∧ 1 ≤ e ∧ e ≤ 3 ∧ 1 ≤ f ∧ f ≤ 3 ∧ (g = Str.ofString "keep" ∨ g = Str.ofString "drop")
theorem any_int (n k : Nat) (S : Sto) (l : List Int) (h : Tn S k) (hl : l ≠ []) (hl2 : l.length < 1073741824) :
    ∃ t S', runO prg (n + 2) i_law_any [.box k, .lst (l.map T.int)] S = some (.ok (.int t) S') ∧ t ∈ l ∧ Tw k S S' := by
  obtain ⟨t, S', e, hm, w⟩ := any_ok n k S (l.map T.int) h (by simpa using hl) (by simpa using hl2)
  obtain ⟨i, hi, rfl⟩ := List.mem_map.mp hm
  exact ⟨i, S', e, hi, w⟩
theorem law_watcher_ok (n k : Nat) (S : Sto) (w : Int) (h : Tn S k) (hw : 0 ≤ w) (hw2 : w < 1000000) :
    ∃ a b c d e f g S', runO prg (n + 3) i_law_watcher [.box k, .int w] S = some (.ok (mkW a b c d e f g) S') ∧ WOk w a b c d e f g ∧ Tw k S S' := by
  obtain ⟨a, S1, e1, m1, w1⟩ := any_int n k S [0, 0, -3, 7] h (by simp) (by simp)
  obtain ⟨b, S2, e2, b0, b1, w2⟩ := scoop_ok (n + 1) k S1 (w + 1) w1.tn (by omega) (by omega)
  obtain ⟨e, S3, e3, m3, w3⟩ := any_int n k S2 [0, 0, 1, 2] w2.tn (by simp) (by simp)
  obtain ⟨f, S4, e4, m4, w4⟩ := any_int n k S3 [0, 0, 1, 2] w3.tn (by simp) (by simp)
  obtain ⟨c, S5, e5, m5, w5⟩ := any_int n k S4 [0, 0, 1, 2, 3] w4.tn (by simp) (by simp)
  obtain ⟨d, S6, e6, m6, w6⟩ := any_int n k S5 [0, 0, 1, 2, 3] w5.tn (by simp) (by simp)
  obtain ⟨g, S7, e7, m7, w7⟩ := any_ok n k S6 [.str (Str.ofString "keep"), .str (Str.ofString "drop")] w6.tn (by simp) (by simp)
  have wt := ((((((w1.trans w2).trans w3).trans w4).trans w5).trans w6).trans w7)
  simp only [List.mem_cons, List.not_mem_nil, or_false] at m1 m3 m4 m5 m6 m7
  obtain ⟨s, rfl, hs⟩ : ∃ s, g = .str s ∧ (s = Str.ofString "keep" ∨ s = Str.ofString "drop") := by
    rcases m7 with rfl | rfl
    · exact ⟨_, rfl, .inl rfl⟩
    · exact ⟨_, rfl, .inr rfl⟩
  refine ⟨a, a + b, c, d, 1 + e, 1 + f, s, S7, ?_, ⟨by omega, by omega, by omega, by omega, by omega, by omega, by omega, by omega, by omega, by omega, by omega, by omega, hs⟩, wt⟩
  simp only [List.map_cons, List.map_nil] at e1 e3 e4 e5 e6
  rw [run_succ prg (n + 2) i_law_watcher _ S fd_law_watcher rfl rfl]
  simp [fd_law_watcher, init, e1, bindT, e2, e3, e4, e5, e6, e7, line, bq_addT, mkW, fin1_le, wt.len]
theorem law_world_ok (n k : Nat) (S : Sto) (h : Tn S k) :
    ∃ a b c S', runO prg (n + 3) i_law_world [.box k] S = some (.ok (mkWd a b c) S') ∧ WdOk a b c ∧ a ≤ 2 ∧ Tw k S S' := by
  obtain ⟨a, S1, e1, m1, w1⟩ := any_int n k S [0, 1, 1, 2] h (by simp) (by simp)
  obtain ⟨b, S2, e2, m2, w2⟩ := any_int n k S1 [0, 0, 1, 2] w1.tn (by simp) (by simp)
  obtain ⟨c, S3, e3, m3, w3⟩ := any_int n k S2 [0, 0, 1, 2] w2.tn (by simp) (by simp)
  have wt := (w1.trans w2).trans w3
  simp only [List.mem_cons, List.not_mem_nil, or_false] at m1 m2 m3
  refine ⟨a, b, c, S3, ?_, ⟨by omega, by omega, by omega, by omega, by omega, by omega⟩, by omega, wt⟩
  simp only [List.map_cons, List.map_nil] at e1 e2 e3
  rw [run_succ prg (n + 2) i_law_world _ S fd_law_world rfl rfl]
  simp [fd_law_world, init, e1, e2, e3, line, mkWd, fin1_le, wt.len]
/-- a trip: its walk and its looks, side by side -/
def tripB : IS := match fd_law_trip.body with
  | .seq _ (.seq _ (.seq (.for_ _ _ b) _)) => b
  | _ => .skip
theorem trip_split : fd_law_trip.body = .seq (.par3 6 7 8 (.cons (.lit (.int 0)) (.cons (.lst true .nil) (.cons (.lst true .nil) .nil)))) (.seq (.asg (.nm 4) (.call i_law_any (.cons (.var 0) (.cons (.lst false (.cons (.ix (.var 1) (.lit (.int 0))) (.cons (.op false .Add (.ix (.var 1) (.lit (.int 1))) (.lit (.int 1))) (.cons (.op false .Sub (.ix (.var 1) (.lit (.int 0))) (.lit (.int 2))) .nil)))) .nil)))) (.seq (.for_ (.nm 5) (.rg1 (.var 3)) tripB) (.seq (.ret (.tup (.cons (.blt false .tuple (.cons (.var 7) .nil)) (.cons (.blt false .tuple (.cons (.var 8) .nil)) .nil)))) .skip))) := rfl
/-- what a trip's looks and walk are, from its start on, newest last -/
def lookT : Option Int → T
  | some i => .int i
  | none => .non
/-- the way of one step: walk, looks, lost -/
inductive TripI (r b l a : Int) : List Int → List (Option Int) → Int → Int → Prop
  | nil : TripI r b l a [] [] a 0
  | lose {ws ls h s} (h' : Int) : TripI r b l a ws ls h s → h - r ≤ h' → h' ≤ h + r → s < l → TripI r b l a (ws ++ [h']) (ls ++ [none]) h' (s + 1)
  | see {ws ls h s} (h' k : Int) : TripI r b l a ws ls h s → h - r ≤ h' → h' ≤ h + r → h' - b ≤ k → k ≤ h' + b → TripI r b l a (ws ++ [h']) (ls ++ [some k]) h' 0
theorem TripI.len {r b l a : Int} {ws : List Int} {ls : List (Option Int)} {h s : Int} (t : TripI r b l a ws ls h s) : ws.length = ls.length := by
  induction t <;> simp_all
theorem ints_no : ∀ l : List Int, noBxL 0 (l.map T.int) = true
  | [] => rfl
  | a :: l => by simp [noBxL, noBx, ints_no l]
theorem looks_no : ∀ l : List (Option Int), noBxL 0 (l.map lookT) = true
  | [] => rfl
  | a :: l => by cases a <;> simp [noBxL, noBx, lookT, looks_no l]
theorem mkWd_at (S : Sto) (a b c : Int) : ixT S (mkWd a b c) (.int 0) = some (.int a) ∧ ixT S (mkWd a b c) (.int 1) = some (.int b) ∧ ixT S (mkWd a b c) (.int 2) = some (.int c) := by
  simp [mkWd]
theorem bo_mul2 (j : Int) : bop .Mult (.int 2) (.int j) = some (.int (2 * j)) := bo_mulL (by decide)
def TripS (k : Nat) (S : Sto) (W : T) (r b l a m : Int) (rest : List T) (ρ : Rho) (S' : Sto) : Prop :=
  ∃ ws ls h s S1 tu lk, ρ = [some (.box k), some W, some (mkWd r b l), some (.int m), some (.int h), tu, some (.int s), some (.box S.length), some (.box (S.length + 1)), lk] ∧
    S' = S1 ++ [.lst (ws.map T.int), .lst (ls.map lookT)] ∧ Tw k S S1 ∧ TripI r b l a ws ls h s ∧ ws.length + rest.length = m.toNat
theorem trip_turn (n k : Nat) (S : Sto) (W : T) (r b l a m : Int) (hwd : WdOk r b l) (hm2 : m < 1000000) (x : T) (rest : List T) (ρ : Rho) (S' : Sto) (h : TripS k S W r b l a m (x :: rest) ρ S') :
    ∃ ρ' S'', frT (evO prg (n + 2)) (.nm 5) tripB x ρ S' = some (.nx ρ' S'') ∧ TripS k S W r b l a m rest ρ' S'' := by
  obtain ⟨ws, ls, h, s, S1, tu, lk, rfl, rfl, w, ti, hlen⟩ := h
  obtain ⟨q1, q2, q3, q4, q5, q6⟩ := hwd
  have hL : S.length = S1.length := w.len.symm
  have hk : k < S1.length := w.len ▸ w.1
  obtain ⟨y, S2, e1, y0, y1, w1⟩ := scoop_ok (n + 1) k (S1 ++ [.lst (ws.map T.int), .lst (ls.map lookT)]) (2 * r + 1) (w.tn.app _) (by omega) (by omega)
  obtain ⟨S3, rfl, w3⟩ := w1.app hk
  have hL3 : S1.length = S3.length := w3.len.symm
  have hk3 : k < S3.length := by omega
  have m0 : ∀ S, _ := mkWd_at (a := r) (b := b) (c := l)
  simp only [List.length_cons] at hlen
  have hh1 : h - r ≤ h + y - r := by omega
  have hh2 : h + y - r ≤ h + r := by omega
  have hln : (ws.map T.int).length < 16777216 := by rw [List.length_map]; omega
  have hln2 : (ls.map lookT).length < 16777216 := by rw [List.length_map, ← ti.len]; omega
  -- the two appends at the end
  have fin : ∀ (S4 : Sto) (lk : Option Int) (s' : Int), Tw k S3 S4 → TripI r b l a (ws ++ [h + y - r]) (ls ++ [lk]) (h + y - r) s' →
      ∃ ρ' S'', evS (evO prg (n + 2)) (.seq (.app (.var 7) (.var 4)) (.seq (.app (.var 8) (.var 9)) .skip)) [some (.box k), some W, some (mkWd r b l), some (.int m), some (.int (h + y - r)), some x, some (.int s'), some (.box S.length), some (.box (S.length + 1)), some (lookT lk)] (S4 ++ [.lst (ws.map T.int), .lst (ls.map lookT)]) = some (.nx ρ' S'') ∧ TripS k S W r b l a m rest ρ' S'' := by
    intro S4 lk s' w4 ti'
    have hL4 : S.length = S4.length := by rw [hL, hL3, w4.len]
    refine ⟨[some (.box k), some W, some (mkWd r b l), some (.int m), some (.int (h + y - r)), some x, some (.int s'), some (.box S.length), some (.box (S.length + 1)), some (lookT lk)], S4 ++ [.lst ((ws ++ [h + y - r]).map T.int), .lst ((ls ++ [lk]).map lookT)], ?_, ws ++ [h + y - r], ls ++ [lk], h + y - r, s', S4, some x, some (lookT lk), rfl, rfl, (w.trans w3).trans w4, ti', by simp; omega⟩
    rw [hL4]
    simp at hln hln2
    simp [isLst, wApp, line, hln, hln2]
  by_cases hs : s < l
  · obtain ⟨z, S5, e5, z0, z1, w5⟩ := scoop_ok (n + 1) k (S3 ++ [.lst (ws.map T.int), .lst (ls.map lookT)]) 3 (w3.tn.app _) (by omega) (by omega)
    obtain ⟨S6, rfl, w6⟩ := w5.app hk3
    have hk6 : k < S6.length := by rw [w6.len]; exact hk3
    by_cases hz : z = 0
    · subst hz
      obtain ⟨ρ', S'', e, i⟩ := fin S6 none (s + 1) w6 (.lose _ ti hh1 hh2 hs)
      refine ⟨ρ', S'', ?_, i⟩
      rw [← e]
      simp [frT, tripB, fd_law_trip, bindT, m0, bo_mul2, e1, hs, e5, lookT]
    · obtain ⟨v, S7, e7, v0, v1, w7⟩ := scoop_ok (n + 1) k (S6 ++ [.lst (ws.map T.int), .lst (ls.map lookT)]) (2 * b + 1) (w6.tn.app _) (by omega) (by omega)
      obtain ⟨S8, rfl, w8⟩ := w7.app hk6
      obtain ⟨ρ', S'', e, i⟩ := fin S8 (some (h + y - r + v - b)) 0 (w6.trans w8) (.see _ _ ti hh1 hh2 (by omega) (by omega))
      refine ⟨ρ', S'', ?_, i⟩
      rw [← e]
      simp [frT, tripB, fd_law_trip, bindT, m0, bo_mul2, e1, hs, e5, lookT, hz, e7]
  · obtain ⟨v, S7, e7, v0, v1, w7⟩ := scoop_ok (n + 1) k (S3 ++ [.lst (ws.map T.int), .lst (ls.map lookT)]) (2 * b + 1) (w3.tn.app _) (by omega) (by omega)
    obtain ⟨S8, rfl, w8⟩ := w7.app hk3
    obtain ⟨ρ', S'', e, i⟩ := fin S8 (some (h + y - r + v - b)) 0 w8 (.see _ _ ti hh1 hh2 (by omega) (by omega))
    refine ⟨ρ', S'', ?_, i⟩
    rw [← e]
    simp [frT, tripB, fd_law_trip, bindT, m0, bo_mul2, e1, hs, lookT, e7]
theorem law_trip_ok (n k : Nat) (S : Sto) (W : T) (lo hi r b l m : Int) (t : List T) (hW : W = .tup (.int lo :: .int hi :: t)) (hwd : WdOk r b l) (h : Tn S k) (hc : Cl S) (hm : 0 ≤ m) (hm2 : m < 1000000) :
    ∃ ws ls S' a x y, (a = lo ∨ a = hi + 1 ∨ a = lo - 2) ∧ runO prg (n + 3) i_law_trip [.box k, W, mkWd r b l, .int m] S = some (.ok (.tup [.tup (ws.map T.int), .tup (ls.map lookT)]) S') ∧ ws.length = m.toNat ∧ TripI r b l a ws ls x y ∧ Tw k S S' := by
  have hk := h.lt
  obtain ⟨a, S1, e1, ma, w1⟩ := any_int n k (S ++ [.lst [], .lst []]) [lo, hi + 1, lo - 2] (h.app _) (by simp) (by simp)
  obtain ⟨S2, rfl, w2⟩ := w1.app hk
  have hL2 : S.length = S2.length := w2.len.symm
  have key := forL_invL (g := frT (evO prg (n + 2)) (.nm 5) tripB) (TripS k S W r b l a m) (l := rngT 0 m.toNat) (fun x rest ρ S' hi => by
    obtain ⟨ρ', S'', e, i⟩ := trip_turn n k S W r b l a m hwd hm2 x rest ρ S' hi
    exact ⟨ρ', S'', .inl e, i⟩)
    (ρ := [some (.box k), some W, some (mkWd r b l), some (.int m), some (.int a), none, some (.int 0), some (.box S.length), some (.box (S.length + 1)), none]) (S := S2 ++ [.lst [], .lst []])
    ⟨[], [], a, 0, S2, _, _, rfl, rfl, w2, .nil, by simp⟩
  obtain ⟨ρ', S', e, ws, ls, h', s, S3, tu, lk, rfl, rfl, w3, ti, hlen⟩ := key
  have hL3 : S.length = S3.length := w3.len.symm
  have ok : okR m = true := by simp [okR]; omega
  simp only [List.map_cons, List.map_nil] at e1
  refine ⟨ws, ls, S3, a, h', s, by simpa using ma, ?_, by simp only [List.length_nil, Nat.add_zero] at hlen; exact hlen, ti, w3⟩
  rw [run_succ prg (n + 2) i_law_trip _ S fd_law_trip rfl rfl, trip_split]
  have t1 : bltT (S3 ++ [.lst (ws.map T.int), .lst (ls.map lookT)]) .tuple [.box S.length] = some (.tup (ws.map T.int)) := bl_tupB (by rw [hL3, List.getElem?_append_right (Nat.le_refl _)]; simp)
  have t2 : bltT (S3 ++ [.lst (ws.map T.int), .lst (ls.map lookT)]) .tuple [.box (S.length + 1)] = some (.tup (ls.map lookT)) := bl_tupB (by rw [hL3, List.getElem?_append_right (by omega)]; simp)
  subst hW
  simp [init, fd_law_trip, line, bindT, e1, ok, e, t1, t2]
  refine fin1_cut hL3.symm ?_ (hc.tw w3)
  simp [noBx, noBxL, ints_no, looks_no]
end Fw

namespace Fw
open PySem L2 PyProof.Rows
/-! ## words and stands -/
def depI (lo hi p : Int) : Int := if hi - p < p - lo then hi - p else p - lo
inductive Wd4 where | lost | inn | out | edge
  deriving DecidableEq
def Wd4.s : Wd4 → Str
  | .lost => Str.ofString "lost" | .inn => Str.ofString "in" | .out => Str.ofString "out" | .edge => Str.ofString "edge"
def wordD (inn out d : Int) : Wd4 := if inn ≤ d then .inn else if d < 0 - out then .out else .edge
def wordL (lo hi inn out : Int) : Option Int → Wd4
  | none => .lost
  | some k => wordD inn out (depI lo hi k)
inductive Sd where | no | come | gone
  deriving DecidableEq
def Sd.t : Sd → T
  | .no => .non | .come => .str (Str.ofString "come") | .gone => .str (Str.ofString "gone")
def isKeep (g : Str) : Bool := g == Str.ofString "keep"
/-- behind a word: within, row, what is said -/
def stepI (come gone : Int) (keep w : Bool) (row : Int) (x : Wd4) : Bool × Int × Sd :=
  if x = .lost then (w, if keep then row else 0, .no)
  else if x ≠ (if w then .out else .inn) then (w, 0, .no)
  else if row + 1 < (if w then gone else come) then (w, row + 1, .no)
  else (!w, 0, if w then .gone else .come)
def stT (w : Bool) (row : Int) : T := .tup [.bl w, .int row]
theorem co_str (S : Sto) (a b : Str) : cop S .Eq (.str a) (.str b) = some (a == b) := by
  simp [cop, eqT, toD, shal, PyData.depth, PyData.eqv]
theorem co_strN (S : Sto) (a b : Str) : cop S .NotEq (.str a) (.str b) = some (!(a == b)) := by
  simp [cop, eqT, toD, shal, PyData.depth, PyData.eqv]
theorem w_lost (x : Wd4) : (x.s == Str.ofString "lost") = decide (x = .lost) := by cases x <;> decide
theorem w_out (x : Wd4) : (x.s == Str.ofString "out") = decide (x = .out) := by cases x <;> decide
theorem w_in (x : Wd4) : (x.s == Str.ofString "in") = decide (x = .inn) := by cases x <;> decide
theorem cv_neg : ∀ (S : Sto) (l : List T), l.length = 7 → ixT S (.tup l) (.int (-1)) = l[6]? := by
  intro S l h
  simp [ixT, drf, atI, ixN, h]
theorem depth_of_ok (n : Nat) (lo hi p : Int) (r : List T) (S : Sto) : runO prg (n + 1) i_depth_of [.tup (.int lo :: .int hi :: r), .int p] S = some (.ok (.int (depI lo hi p)) S) := by
  rw [run_succ prg n i_depth_of _ S fd_depth_of rfl rfl]
  simp [fd_depth_of, init, depI]
theorem word_at_ok (n : Nat) (a b c d e f : Int) (g : Str) (x : Int) (S : Sto) : runO prg (n + 1) i_word_at [mkW a b c d e f g, .int x] S = some (.ok (.str (wordD c d x).s) S) := by
  rw [run_succ prg n i_word_at _ S fd_word_at rfl rfl]
  by_cases h1 : c ≤ x
  · simp [fd_word_at, init, mkW, wordD, h1, Wd4.s]
  · have h1' : ¬ c ≤ x := h1
    by_cases h2 : x < -d
    · simp [fd_word_at, init, mkW, wordD, h1', h2, Wd4.s]
    · simp [fd_word_at, init, mkW, wordD, h1', h2, Wd4.s]
theorem look_word_ok (n : Nat) (a b c d e f : Int) (g : Str) (k : Option Int) (S : Sto) : runO prg (n + 2) i_look_word [mkW a b c d e f g, lookT k] S = some (.ok (.str (wordL a b c d k).s) S) := by
  rw [run_succ prg (n + 1) i_look_word _ S fd_look_word rfl rfl]
  cases k with
  | none => simp [fd_look_word, init, lookT, cop, wordL, Wd4.s]
  | some k =>
    have h1 := depth_of_ok n a b k [.int c, .int d, .int e, .int f, .str g]
    have h2 := fun x S => word_at_ok n a b c d e f g x S
    simp only [mkW] at h2
    simp [fd_look_word, init, lookT, cop, wordL, h1, h2, mkW]
theorem stepped_ok (n : Nat) (a b c d e f : Int) (g : Str) (w : Bool) (row : Int) (x : Wd4) (S : Sto) :
    runO prg (n + 1) i_stepped [mkW a b c d e f g, stT w row, .str x.s] S = some (.ok (.tup [stT (stepI e f (isKeep g) w row x).1 (stepI e f (isKeep g) w row x).2.1, (stepI e f (isKeep g) w row x).2.2.t]) S) := by
  rw [run_succ prg n i_stepped _ S fd_stepped rfl rfl]
  by_cases h1 : x = .lost
  · subst h1
    cases hk : isKeep g with
    | true =>
      have hk' : (g == Str.ofString "keep") = true := hk
      simp [fd_stepped, init, mkW, stT, bindT, co_str, w_lost, hk', stepI, line, Sd.t]
    | false =>
      have hk' : (g == Str.ofString "keep") = false := hk
      simp [fd_stepped, init, mkW, stT, bindT, co_str, w_lost, hk', stepI, line, Sd.t]
  · cases w with
    | true =>
      by_cases h2 : x = .out
      · subst h2
        by_cases h3 : row + 1 < f
        · simp [fd_stepped, init, mkW, stT, bindT, co_str, co_strN, w_lost, w_out, stepI, line, Sd.t, h3]
        · simp [fd_stepped, init, mkW, stT, bindT, co_str, co_strN, w_lost, w_out, stepI, line, Sd.t, h3]
      · simp [fd_stepped, init, mkW, stT, bindT, co_str, co_strN, w_lost, w_out, stepI, line, Sd.t, h1, h2]
    | false =>
      by_cases h2 : x = .inn
      · subst h2
        by_cases h3 : row + 1 < e
        · simp [fd_stepped, init, mkW, stT, bindT, co_str, co_strN, w_lost, w_in, stepI, line, Sd.t, h3]
        · simp [fd_stepped, init, mkW, stT, bindT, co_str, co_strN, w_lost, w_in, stepI, line, Sd.t, h3]
      · simp [fd_stepped, init, mkW, stT, bindT, co_str, co_strN, w_lost, w_in, stepI, line, Sd.t, h1, h2]
theorem law_word_ok (n : Nat) (a b c d e f : Int) (g : Str) (hc : 0 ≤ c) (hd : 0 ≤ d) (k : Option Int) (S : Sto) : runO prg (n + 1) i_law_word [mkW a b c d e f g, lookT k] S = some (.ok (.str (wordL a b c d k).s) S) := by
  rw [run_succ prg n i_law_word _ S fd_law_word rfl rfl]
  cases k with
  | none => simp [fd_law_word, init, lookT, cop, wordL, Wd4.s]
  | some k =>
    have hD : depI a b k = (if b - k < k - a then b - k else k - a) := rfl
    by_cases h1 : a + c ≤ k
    · by_cases h2 : k ≤ b - c
      · have hw : wordL a b c d (some k) = .inn := by
          simp only [wordL, wordD]; rw [if_pos]; rw [hD]; split <;> omega
        simp [fd_law_word, init, lookT, cop, mkW, hw, Wd4.s, h1, h2]
      · by_cases h4 : k ≤ b + d
        · have hw : wordL a b c d (some k) = .edge := by
            simp only [wordL, wordD]; rw [if_neg, if_neg] <;> rw [hD] <;> split <;> omega
          have h3 : a - d ≤ k := by omega
          simp [fd_law_word, init, lookT, cop, mkW, hw, Wd4.s, h1, h2, h3, h4]
        · have hw : wordL a b c d (some k) = .out := by
            simp only [wordL, wordD]; rw [if_neg, if_pos] <;> rw [hD] <;> split <;> omega
          have h3 : a - d ≤ k := by omega
          simp [fd_law_word, init, lookT, cop, mkW, hw, Wd4.s, h1, h2, h3, h4]
    · by_cases h3 : a - d ≤ k
      · by_cases h4 : k ≤ b + d
        · have hw : wordL a b c d (some k) = .edge := by
            simp only [wordL, wordD]; rw [if_neg, if_neg] <;> rw [hD] <;> split <;> omega
          simp [fd_law_word, init, lookT, cop, mkW, hw, Wd4.s, h1, h3, h4]
        · have hw : wordL a b c d (some k) = .out := by
            simp only [wordL, wordD]; rw [if_neg, if_pos] <;> rw [hD] <;> split <;> omega
          simp [fd_law_word, init, lookT, cop, mkW, hw, Wd4.s, h1, h3, h4]
      · have hw : wordL a b c d (some k) = .out := by
          simp only [wordL, wordD]; rw [if_neg, if_pos] <;> rw [hD] <;> split <;> omega
        simp [fd_law_word, init, lookT, cop, mkW, hw, Wd4.s, h1, h3]
theorem law_onward_ok (n : Nat) (a b c d e f : Int) (g : Str) (hc : 0 ≤ c) (hd : 0 ≤ d) (w : Bool) (row : Int) (k : Option Int) (S : Sto) :
    runO prg (n + 2) i_law_onward [mkW a b c d e f g, stT w row, lookT k] S = some (.ok (.tup [stT (stepI e f (isKeep g) w row (wordL a b c d k)).1 (stepI e f (isKeep g) w row (wordL a b c d k)).2.1, (stepI e f (isKeep g) w row (wordL a b c d k)).2.2.t]) S) := by
  rw [run_succ prg (n + 1) i_law_onward _ S fd_law_onward rfl rfl]
  have hw := fun S => law_word_ok n a b c d e f g hc hd k S
  simp only [mkW] at hw
  generalize wordL a b c d k = x at hw
  by_cases h1 : x = .lost
  · subst h1
    cases hk : isKeep g with
    | true =>
      have hk' : (g == Str.ofString "keep") = true := hk
      simp [fd_law_onward, init, mkW, stT, bindT, hw, co_str, w_lost, hk', stepI, line, Sd.t]
    | false =>
      have hk' : (g == Str.ofString "keep") = false := hk
      cases w <;> simp [fd_law_onward, init, mkW, stT, bindT, hw, co_str, co_strN, w_lost, w_out, w_in, hk', stepI, line, Sd.t]
  · cases w with
    | true =>
      by_cases h2 : x = .out
      · subst h2
        by_cases h3 : row + 1 < f
        · simp [fd_law_onward, init, mkW, stT, bindT, hw, co_str, co_strN, w_lost, w_out, stepI, line, Sd.t, h3]
        · simp [fd_law_onward, init, mkW, stT, bindT, hw, co_str, co_strN, w_lost, w_out, stepI, line, Sd.t, h3]
      · simp [fd_law_onward, init, mkW, stT, bindT, hw, co_str, co_strN, w_lost, w_out, stepI, line, Sd.t, h1, h2]
    | false =>
      by_cases h2 : x = .inn
      · subst h2
        by_cases h3 : row + 1 < e
        · simp [fd_law_onward, init, mkW, stT, bindT, hw, co_str, co_strN, w_lost, w_in, stepI, line, Sd.t, h3]
        · simp [fd_law_onward, init, mkW, stT, bindT, hw, co_str, co_strN, w_lost, w_in, stepI, line, Sd.t, h3]
      · simp [fd_law_onward, init, mkW, stT, bindT, hw, co_str, co_strN, w_lost, w_in, stepI, line, Sd.t, h1, h2]
theorem law_deep_ok (n : Nat) (lo hi p : Int) (r : List T) (S : Sto) : runO prg (n + 1) i_law_deep [.tup (.int lo :: .int hi :: r), .int p] S = some (.ok (.int (depI lo hi p)) S) := by
  rw [run_succ prg n i_law_deep _ S fd_law_deep rfl rfl]
  simp [fd_law_deep, init, depI]
end Fw

namespace Fw
open PySem L2 PyProof.Rows
/-! ## places: bounds and sets -/
abbrev Bd := Option Int × Option Int
def mvB : Option Int → Int → Option Int
  | none, _ => none
  | some x, d => some (x + d)
def grB : Option Int → Option Int → Option Int
  | none, y => y
  | some x, none => some x
  | some x, some y => some (if y > x then y else x)
def lsB : Option Int → Option Int → Option Int
  | none, y => y
  | some x, none => some x
  | some x, some y => some (if y < x then y else x)
def stR (r b : Int) (p : Bd) : Option Int → Bd
  | none => (mvB p.1 (0 - r), mvB p.2 r)
  | some k => (grB (mvB p.1 (0 - r)) (some (k - b)), lsB (mvB p.2 r) (some (k + b)))
def rngI (r b : Int) : List (Option Int) → Bd → List Bd
  | [], _ => []
  | k :: ks, p => stR r b p k :: rngI r b ks (stR r b p k)
def combB (x y : Bd) : Bd := (grB x.1 y.1, lsB x.2 y.2)
def badB : Bd → Bool
  | (some x, some y) => decide (y < x)
  | _ => false
def wideI (lo hi : Int) : List Int := (List.range (hi + 1 - lo).toNat).map fun i => lo + (i : Nat)
def stW (r b lo hi : Int) (f : Bool) (here : List Int) (k : Option Int) : List Int :=
  let h1 := if f then here else (wideI lo hi).filter fun s => here.any fun o => decide (absI (o - s) ≤ r)
  match k with
  | none => h1
  | some k => h1.filter fun s => decide (absI (s - k) ≤ b)
def spI (r b lo hi : Int) : Bool → List Int → List (Option Int) → List (List Int)
  | _, _, [] => []
  | f, here, k :: ks => stW r b lo hi f here k :: spI r b lo hi false (stW r b lo hi f here k) ks
def geB : Option Int → Int → Bool
  | none, _ => true
  | some x, s => decide (x ≤ s)
def leB : Option Int → Int → Bool
  | none, _ => true
  | some x, s => decide (s ≤ x)
def inB (p : Bd) (s : Int) : Bool := geB p.1 s && leB p.2 s
def itv (lo hi : Int) (p : Bd) : List Int := (wideI lo hi).filter (inB p)
theorem wideI_mem {lo hi s : Int} : s ∈ wideI lo hi ↔ lo ≤ s ∧ s ≤ hi := by
  simp only [wideI, List.mem_map, List.mem_range]
  constructor
  · rintro ⟨k, h1, rfl⟩; omega
  · rintro ⟨h1, h2⟩; exact ⟨(s - lo).toNat, by omega, by omega⟩
theorem itv_mem {lo hi s : Int} {p : Bd} : s ∈ itv lo hi p ↔ (lo ≤ s ∧ s ≤ hi) ∧ inB p s = true := by
  simp [itv, wideI_mem]
theorem inB_mv {r : Int} {p : Bd} {s : Int} : inB (mvB p.1 (0 - r), mvB p.2 r) s = true ↔ (∀ x, p.1 = some x → x - r ≤ s) ∧ (∀ y, p.2 = some y → s ≤ y + r) := by
  obtain ⟨a, c⟩ := p
  cases a <;> cases c <;> simp [inB, geB, leB, mvB] <;> omega
theorem inB_iff {p : Bd} {s : Int} : inB p s = true ↔ (∀ x, p.1 = some x → x ≤ s) ∧ (∀ y, p.2 = some y → s ≤ y) := by
  obtain ⟨a, c⟩ := p
  cases a <;> cases c <;> simp [inB, geB, leB]
theorem absI_le {x r : Int} : absI x ≤ r ↔ -r ≤ x ∧ x ≤ r := by
  unfold absI; split <;> omega
theorem inB_comb {x y : Bd} {s : Int} : inB (combB x y) s = (inB x s && inB y s) := by
  obtain ⟨a, c⟩ := x
  obtain ⟨d, e⟩ := y
  rw [Bool.eq_iff_iff]
  simp only [Bool.and_eq_true, inB, combB]
  cases a <;> cases c <;> cases d <;> cases e <;> simp only [grB, lsB, geB, leB, decide_eq_true_eq, true_and, and_true] <;> (try split) <;> (try split) <;> omega
theorem inB_st {r b : Int} {p : Bd} {k s : Int} : inB (stR r b p (some k)) s = (inB (mvB p.1 (0 - r), mvB p.2 r) s && decide (absI (s - k) ≤ b)) := by
  have h : stR r b p (some k) = combB (mvB p.1 (0 - r), mvB p.2 r) (some (k - b), some (k + b)) := rfl
  rw [h, inB_comb]
  congr 1
  rw [Bool.eq_iff_iff]
  simp only [inB, geB, leB, Bool.and_eq_true, decide_eq_true_eq, absI_le]
  omega
/-- one move -/
theorem move_ok {lo hi r : Int} {p : Bd} (hr : 0 ≤ r) (hn : itv lo hi p ≠ []) : ((wideI lo hi).filter fun s => (itv lo hi p).any fun o => decide (absI (o - s) ≤ r)) = itv lo hi (mvB p.1 (0 - r), mvB p.2 r) := by
  refine List.filter_congr fun s hs => ?_
  rw [wideI_mem] at hs
  rw [Bool.eq_iff_iff, inB_mv, List.any_eq_true]
  constructor
  · rintro ⟨o, ho, h⟩
    rw [itv_mem, inB_iff] at ho
    rw [decide_eq_true_eq, absI_le] at h
    exact ⟨fun x hx => by have := ho.2.1 x hx; omega, fun x hx => by have := ho.2.2 x hx; omega⟩
  · rintro ⟨h1, h2⟩
    obtain ⟨o, ho⟩ := List.exists_mem_of_ne_nil _ hn
    rw [itv_mem, inB_iff] at ho
    obtain ⟨⟨o1, o2⟩, o3, o4⟩ := ho
    obtain ⟨a, c⟩ := p
    -- the nearest one
    have key : ∃ z : Int, (lo ≤ z ∧ z ≤ hi) ∧ (∀ x, a = some x → x ≤ z) ∧ (∀ y, c = some y → z ≤ y) ∧ -r ≤ z - s ∧ z - s ≤ r := by
      by_cases q1 : ∃ x, a = some x ∧ s < x
      · obtain ⟨x, rfl, hx⟩ := q1
        have g1 := h1 x rfl
        have g2 := o3 x rfl
        refine ⟨x, by omega, fun y hy => by cases hy; omega, fun y hy => ?_, by omega, by omega⟩
        have := o4 y hy; omega
      · by_cases q2 : ∃ y, c = some y ∧ y < s
        · obtain ⟨y, rfl, hy⟩ := q2
          have g1 := h2 y rfl
          have g2 := o4 y rfl
          refine ⟨y, by omega, fun x hx => ?_, fun x hx => by cases hx; omega, by omega, by omega⟩
          have := o3 x hx; omega
        · refine ⟨s, by omega, fun x hx => ?_, fun x hx => ?_, by omega, by omega⟩
          · exact Int.not_lt.mp fun h => q1 ⟨x, hx, h⟩
          · exact Int.not_lt.mp fun h => q2 ⟨x, hx, h⟩
    obtain ⟨z, z1, z2, z3, z4, z5⟩ := key
    exact ⟨z, itv_mem.mpr ⟨z1, inB_iff.mpr ⟨z2, z3⟩⟩, by rw [decide_eq_true_eq, absI_le]; omega⟩
theorem stW_ok {lo hi r b : Int} {p : Bd} (hr : 0 ≤ r) (hn : itv lo hi p ≠ []) (k : Option Int) : stW r b lo hi false (itv lo hi p) k = itv lo hi (stR r b p k) := by
  unfold stW
  simp only [Bool.false_eq_true, if_false]
  rw [move_ok hr hn]
  cases k with
  | none => rfl
  | some k =>
    simp only [itv, List.filter_filter]
    refine List.filter_congr fun s _ => ?_
    rw [inB_st]
    exact Bool.and_comm _ _
theorem stW_first {lo hi r b : Int} (k : Option Int) : stW r b lo hi true (wideI lo hi) k = itv lo hi (stR r b (none, none) k) := by
  unfold stW
  simp only [if_true]
  cases k with
  | none => 
    simp only [stR, mvB, itv]
    rw [List.filter_eq_self.mpr]
    intro s _; rfl
  | some k =>
    simp only [itv]
    refine List.filter_congr fun s _ => ?_
    rw [inB_st]; rfl
theorem sp_of_rng {lo hi r b : Int} (hr : 0 ≤ r) : ∀ (ks : List (Option Int)) (p : Bd), itv lo hi p ≠ [] → (∀ q ∈ rngI r b ks p, itv lo hi q ≠ []) → spI r b lo hi false (itv lo hi p) ks = (rngI r b ks p).map (itv lo hi)
  | [], _, _, _ => rfl
  | k :: ks, p, hn, h => by
    rw [spI, rngI, stW_ok hr hn, List.map_cons, sp_of_rng hr ks _ (h _ (by simp [rngI])) fun q hq => h q (by simp [rngI, hq])]
theorem sp_of_sp {lo hi r b : Int} (hr : 0 ≤ r) : ∀ (ks : List (Option Int)) (p : Bd), itv lo hi p ≠ [] → (∀ q ∈ spI r b lo hi false (itv lo hi p) ks, q ≠ []) → spI r b lo hi false (itv lo hi p) ks = (rngI r b ks p).map (itv lo hi)
  | [], _, _, _ => rfl
  | k :: ks, p, hn, h => by
    rw [spI, stW_ok hr hn] at h
    rw [spI, rngI, stW_ok hr hn, List.map_cons, sp_of_sp hr ks _ (h _ (by simp)) fun q hq => h q (by simp [hq])]
/-- the sets of all looks -/
def setsI (r b lo hi : Int) (ks : List (Option Int)) : List (List Int) := spI r b lo hi true (wideI lo hi) ks
def bdsI (r b : Int) (ks : List (Option Int)) : List Bd := rngI r b ks (none, none)
theorem sets_of_rng {lo hi r b : Int} (hr : 0 ≤ r) (ks : List (Option Int)) (h : ∀ q ∈ bdsI r b ks, itv lo hi q ≠ []) : setsI r b lo hi ks = (bdsI r b ks).map (itv lo hi) := by
  cases ks with
  | nil => rfl
  | cons k ks =>
    unfold bdsI at *
    unfold setsI
    rw [spI, rngI, stW_first, List.map_cons, sp_of_rng hr ks _ (h _ (by simp [rngI])) fun q hq => h q (by simp [rngI, hq])]
theorem sets_of_sp {lo hi r b : Int} (hr : 0 ≤ r) (ks : List (Option Int)) (h : ∀ q ∈ setsI r b lo hi ks, q ≠ []) : setsI r b lo hi ks = (bdsI r b ks).map (itv lo hi) := by
  cases ks with
  | nil => rfl
  | cons k ks =>
    unfold setsI at h
    rw [spI, stW_first] at h
    unfold bdsI setsI
    rw [spI, rngI, stW_first, List.map_cons, sp_of_sp hr ks _ (h _ (by simp)) fun q hq => h q (by simp [hq])]
/-! bounds of bounds -/
theorem rngI_len (r b : Int) : ∀ (ks : List (Option Int)) (p : Bd), (rngI r b ks p).length = ks.length
  | [], _ => rfl
  | k :: ks, p => by simp [rngI, rngI_len r b ks]
theorem spI_len (r b lo hi : Int) : ∀ (f : Bool) (p : List Int) (ks : List (Option Int)), (spI r b lo hi f p ks).length = ks.length
  | _, _, [] => rfl
  | f, p, k :: ks => by simp [spI, spI_len r b lo hi]
/-- bounds between a and b, if any; both or none -/
def BdIn (u v : Int) (p : Bd) : Prop := (∀ x, p.1 = some x → u ≤ x ∧ x ≤ v) ∧ (∀ x, p.2 = some x → u ≤ x ∧ x ≤ v)
theorem rngI_in {r b mn mx : Int} (hr : 0 ≤ r) (hb : 0 ≤ b) : ∀ (ks : List (Option Int)) (p : Bd) (u v : Int), (∀ k, some k ∈ ks → mn ≤ k ∧ k ≤ mx) → BdIn u v p → u ≤ mn - b → mx + b ≤ v → ∀ q ∈ rngI r b ks p, BdIn (u - r * ks.length) (v + r * ks.length) q
  | [], _, _, _, _, _, _, _, q, h => by simp [rngI] at h
  | k :: ks, p, u, v, hk, hp, hu, hv, q, h => by
    have h1 : BdIn (u - r) (v + r) (stR r b p k) := by
      obtain ⟨a, c⟩ := p
      obtain ⟨h1, h2⟩ := hp
      cases k with
      | none =>
        refine ⟨fun x hx => ?_, fun x hx => ?_⟩
        · cases a with
          | none => cases hx
          | some a =>
            have := h1 a rfl
            simp only [stR, mvB, Option.some.injEq] at hx; omega
        · cases c with
          | none => cases hx
          | some a =>
            have := h2 a rfl
            simp only [stR, mvB, Option.some.injEq] at hx; omega
      | some k =>
        have hk := hk k (by simp)
        refine ⟨fun x hx => ?_, fun x hx => ?_⟩
        · cases a with
          | none => simp only [stR, mvB, grB, Option.some.injEq] at hx; omega
          | some a =>
            have := h1 a rfl
            simp only [stR, mvB, grB, Option.some.injEq] at hx
            split at hx <;> omega
        · cases c with
          | none => simp only [stR, mvB, lsB, Option.some.injEq] at hx; omega
          | some a =>
            have := h2 a rfl
            simp only [stR, mvB, lsB, Option.some.injEq] at hx
            split at hx <;> omega
    have hl : r * ((k :: ks).length : Nat) = r * (ks.length : Nat) + r := by
      rw [List.length_cons, Int.natCast_add, Int.mul_add]; simp
    have hrl : 0 ≤ r * (ks.length : Nat) := Int.mul_nonneg hr (by omega)
    rw [rngI, List.mem_cons] at h
    rcases h with rfl | h
    · refine ⟨fun x hx => ?_, fun x hx => ?_⟩
      · have := h1.1 x hx; rw [hl]; omega
      · have := h1.2 x hx; rw [hl]; omega
    · have := rngI_in hr hb ks _ (u - r) (v + r) (fun k' h' => hk k' (by simp [h'])) h1 (by omega) (by omega) q h
      refine ⟨fun x hx => ?_, fun x hx => ?_⟩
      · have := this.1 x hx; rw [hl]; omega
      · have := this.2 x hx; rw [hl]; omega
theorem bds_in {r b mn mx : Int} (hr : 0 ≤ r) (hb : 0 ≤ b) (ks : List (Option Int)) (hk : ∀ k, some k ∈ ks → mn ≤ k ∧ k ≤ mx) : ∀ q ∈ bdsI r b ks, BdIn (mn - (r * ks.length + b)) (mx + (r * ks.length + b)) q := by
  intro q hq
  have := rngI_in hr hb ks (none, none) (mn - b) (mx + b) hk ⟨by simp, by simp⟩ (by omega) (by omega) q hq
  refine ⟨fun x hx => ?_, fun x hx => ?_⟩
  · have := this.1 x hx; omega
  · have := this.2 x hx; omega
theorem itv_ne {u v : Int} {p : Bd} (huv : u ≤ v) (hp : BdIn u v p) (h : badB p = false) : itv u v p ≠ [] := by
  have key : ∃ z : Int, (u ≤ z ∧ z ≤ v) ∧ inB p z = true := by
    obtain ⟨a, c⟩ := p
    cases a with
    | none =>
      cases c with
      | none => exact ⟨u, by omega, rfl⟩
      | some c => exact ⟨c, hp.2 c rfl, by simp [inB, geB, leB]⟩
    | some a =>
      cases c with
      | none => exact ⟨a, hp.1 a rfl, by simp [inB, geB, leB]⟩
      | some c => 
        simp only [badB, decide_eq_false_iff_not] at h
        exact ⟨a, hp.1 a rfl, by simp [inB, geB, leB]; omega⟩
  obtain ⟨z, z1, z2⟩ := key
  exact List.ne_nil_of_mem (itv_mem.mpr ⟨z1, z2⟩)
theorem itv_bad {u v : Int} {p : Bd} (h : badB p = true) : itv u v p = [] := by
  refine List.filter_eq_nil_iff.mpr fun s _ hs => ?_
  obtain ⟨a, c⟩ := p
  cases a with
  | none => cases h
  | some a =>
    cases c with
    | none => cases h
    | some c =>
      simp only [badB, decide_eq_true_eq] at h
      simp only [inB, geB, leB, Bool.and_eq_true, decide_eq_true_eq] at hs
      omega
theorem comb_bad {x y : Bd} (h : badB (combB x y) = false) : badB x = false ∧ badB y = false := by
  obtain ⟨a, c⟩ := x
  obtain ⟨d, e⟩ := y
  cases a <;> cases c <;> cases d <;> cases e <;> simp only [combB, grB, lsB, badB, decide_eq_false_iff_not] at h ⊢ <;> (try trivial) <;> (try (split at h <;> (try split at h) <;> (first | omega | (constructor <;> first | trivial | omega))))
theorem comb_in {u v : Int} {x y : Bd} (hx : BdIn u v x) (hy : BdIn u v y) : BdIn u v (combB x y) := by
  obtain ⟨a, c⟩ := x
  obtain ⟨d, e⟩ := y
  obtain ⟨h1, h2⟩ := hx
  obtain ⟨h3, h4⟩ := hy
  refine ⟨fun z hz => ?_, fun z hz => ?_⟩
  · cases a <;> cases d <;> simp only [combB, grB] at hz
    · cases hz
    · exact h3 z hz
    · exact h1 z hz
    · rename_i a d
      have q1 := h1 a rfl; have q2 := h3 d rfl
      simp only [Option.some.injEq] at hz
      split at hz <;> omega
  · cases c <;> cases e <;> simp only [combB, lsB] at hz
    · cases hz
    · exact h4 z hz
    · exact h2 z hz
    · rename_i a d
      have q1 := h2 a rfl; have q2 := h4 d rfl
      simp only [Option.some.injEq] at hz
      split at hz <;> omega
theorem itv_both {u v : Int} (x y : Bd) : ((itv u v x).filter fun s => (itv u v y).any fun z => z == s) = itv u v (combB x y) := by
  have e : ∀ s ∈ itv u v x, ((itv u v y).any fun z => z == s) = inB y s := by
    intro s hs
    rw [itv_mem] at hs
    rw [Bool.eq_iff_iff, List.any_eq_true]
    constructor
    · rintro ⟨z, hz, q⟩
      rw [beq_iff_eq] at q; subst q
      exact (itv_mem.mp hz).2
    · intro q
      exact ⟨s, itv_mem.mpr ⟨hs.1, q⟩, by simp⟩
  rw [List.filter_congr e, itv, itv, List.filter_filter]
  refine List.filter_congr fun s _ => ?_
  rw [inB_comb, Bool.and_comm]
/-- the law's sets at each look -/
def bothI (A B : List (List Int)) : List (List Int) := List.zipWith (fun x y => x.filter fun s => y.any fun z => z == s) A B
def combL (A B : List Bd) : List Bd := List.zipWith combB A B
theorem both_map (u v : Int) : ∀ A B : List Bd, bothI (A.map (itv u v)) (B.map (itv u v)) = (combL A B).map (itv u v)
  | [], _ => by simp [bothI, combL]
  | _ :: _, [] => by simp [bothI, combL]
  | x :: A, y :: B => by
    have ih := both_map u v A B
    simp only [bothI, combL] at ih
    simp only [bothI, combL, List.map_cons, List.zipWith_cons_cons, List.cons.injEq]
    exact ⟨itv_both x y, ih⟩
theorem mem_zipL {α β γ : Type} {f : α → β → γ} : ∀ {A : List α} {B : List β}, A.length = B.length → (∀ x ∈ A, ∃ y ∈ B, f x y ∈ List.zipWith f A B) ∧ (∀ y ∈ B, ∃ x ∈ A, f x y ∈ List.zipWith f A B)
  | [], [], _ => ⟨by simp, by simp⟩
  | [], _ :: _, h => by simp at h
  | _ :: _, [], h => by simp at h
  | x :: A, y :: B, h => by
    have ih := mem_zipL (f := f) (A := A) (B := B) (by simpa using h)
    refine ⟨fun z hz => ?_, fun z hz => ?_⟩
    · rcases List.mem_cons.mp hz with rfl | hz
      · exact ⟨y, by simp, by simp⟩
      · obtain ⟨w, h1, h2⟩ := ih.1 z hz
        exact ⟨w, by simp [h1], by simp [h2]⟩
    · rcases List.mem_cons.mp hz with rfl | hz
      · exact ⟨x, by simp, by simp⟩
      · obtain ⟨w, h1, h2⟩ := ih.2 z hz
        exact ⟨w, by simp [h1], by simp [h2]⟩
theorem zip_in {α β γ : Type} {f : α → β → γ} {z : γ} : ∀ {A : List α} {B : List β}, z ∈ List.zipWith f A B → ∃ x ∈ A, ∃ y ∈ B, z = f x y
  | [], _, h => by simp at h
  | _ :: _, [], h => by simp at h
  | x :: A, y :: B, h => by
    simp only [List.zipWith_cons_cons, List.mem_cons] at h
    rcases h with rfl | h
    · exact ⟨x, by simp, y, by simp, rfl⟩
    · obtain ⟨x', h1, y', h2, e⟩ := zip_in h
      exact ⟨x', by simp [h1], y', by simp [h2], e⟩
def bwdB (r b : Int) (ks : List (Option Int)) : List Bd := (bdsI r b ks.reverse).reverse
def bwdS (r b u v : Int) (ks : List (Option Int)) : List (List Int) := (setsI r b u v ks.reverse).reverse
theorem places_eq {r b mn mx : Int} (hr : 0 ≤ r) (hb : 0 ≤ b) (hm : mn ≤ mx) (ks : List (Option Int)) (hk : ∀ k, some k ∈ ks → mn ≤ k ∧ k ≤ mx) (u v : Int) (hu : u = mn - (r * ks.length + b)) (hv : v = mx + (r * ks.length + b)) :
    ([] ∈ bothI (setsI r b u v ks) (bwdS r b u v ks) ↔ (combL (bdsI r b ks) (bwdB r b ks)).any badB = true) ∧
    ((combL (bdsI r b ks) (bwdB r b ks)).any badB = false → bothI (setsI r b u v ks) (bwdS r b u v ks) = (combL (bdsI r b ks) (bwdB r b ks)).map (itv u v)) := by
  have hrl : 0 ≤ r * (ks.length : Nat) := Int.mul_nonneg hr (by omega)
  have huv : u ≤ v := by omega
  have lenA : (bdsI r b ks).length = (bwdB r b ks).length := by simp [bdsI, bwdB, rngI_len]
  have lenS : (setsI r b u v ks).length = (bwdS r b u v ks).length := by simp [setsI, bwdS, spI_len]
  have inA : ∀ q ∈ bdsI r b ks, BdIn u v q := by rw [hu, hv]; exact bds_in hr hb ks hk
  have inR : ∀ q ∈ bdsI r b ks.reverse, BdIn u v q := by
    rw [hu, hv]
    have := bds_in hr hb ks.reverse (fun k h => hk k (by simpa using h))
    rw [List.length_reverse] at this
    exact this
  have eqOf : setsI r b u v ks = (bdsI r b ks).map (itv u v) → setsI r b u v ks.reverse = (bdsI r b ks.reverse).map (itv u v) → bothI (setsI r b u v ks) (bwdS r b u v ks) = (combL (bdsI r b ks) (bwdB r b ks)).map (itv u v) := by
    intro e1 e2
    rw [bwdS, e1, e2, ← List.map_reverse]
    exact both_map u v _ _
  have good : (combL (bdsI r b ks) (bwdB r b ks)).any badB = false → bothI (setsI r b u v ks) (bwdS r b u v ks) = (combL (bdsI r b ks) (bwdB r b ks)).map (itv u v) := by
    intro h
    rw [List.any_eq_false] at h
    refine eqOf (sets_of_rng hr ks fun q hq => ?_) (sets_of_rng hr _ fun q hq => ?_)
    · obtain ⟨y, _, h2⟩ := (mem_zipL (f := combB) lenA).1 q hq
      have := h _ h2
      exact itv_ne huv (inA q hq) (comb_bad (by simpa using this)).1
    · obtain ⟨y, _, h2⟩ := (mem_zipL (f := combB) lenA).2 q (by simpa [bwdB] using hq)
      have := h _ h2
      exact itv_ne huv (inR q hq) (comb_bad (by simpa using this)).2
  refine ⟨⟨fun h => ?_, fun h => ?_⟩, good⟩
  · cases q : (combL (bdsI r b ks) (bwdB r b ks)).any badB with
    | true => rfl
    | false =>
      rw [good q, List.mem_map] at h
      obtain ⟨z, hz, e⟩ := h
      rw [List.any_eq_false] at q
      have := q z hz
      obtain ⟨x, hx, y, hy, rfl⟩ := zip_in hz
      exact absurd e (itv_ne huv (comb_in (inA x hx) (inR y (by simpa [bwdB] using hy))) (by simpa using this))
  · cases q : decide ([] ∈ bothI (setsI r b u v ks) (bwdS r b u v ks)) with
    | true => exact of_decide_eq_true q
    | false =>
      have q := of_decide_eq_false q
      have e := eqOf (sets_of_sp hr ks fun z hz => ?_) (sets_of_sp hr _ fun z hz => ?_)
      · rw [List.any_eq_true] at h
        obtain ⟨z, hz, hb⟩ := h
        exact absurd (by rw [e, List.mem_map]; exact ⟨z, hz, itv_bad hb⟩) q
      · rintro rfl
        obtain ⟨y, _, h2⟩ := (mem_zipL (f := fun (x y : List Int) => x.filter fun s => y.any fun z => z == s) lenS).1 _ hz
        exact q (by simpa [bothI] using h2)
      · rintro rfl
        obtain ⟨y, _, h2⟩ := (mem_zipL (f := fun (x y : List Int) => x.filter fun s => y.any fun z => z == s) lenS).2 [] (by simpa [bwdS] using hz)
        have e0 : (List.filter (fun s => ([] : List Int).any fun z => z == s) y) = [] := by simp
        simp only [e0] at h2
        exact q h2
/-! both ends are told -/
def bothS (p : Bd) : Prop := (∃ x, p.1 = some x) ∧ ∃ y, p.2 = some y
theorem st_some {r b : Int} {p : Bd} {k : Option Int} (h : bothS p ∨ ∃ i, k = some i) : bothS (stR r b p k) := by
  obtain ⟨a, c⟩ := p
  cases k with
  | none =>
    rcases h with ⟨⟨x, hx⟩, y, hy⟩ | ⟨_, h⟩
    · simp only at hx hy; subst hx; subst hy
      exact ⟨⟨_, rfl⟩, _, rfl⟩
    · cases h
  | some k =>
    cases a <;> cases c <;> exact ⟨⟨_, rfl⟩, _, rfl⟩
theorem rng_some {r b : Int} : ∀ (ks : List (Option Int)) (p q : Bd) (i : Nat), (rngI r b ks p)[i]? = some q → (bothS p ∨ ∃ j k, j ≤ i ∧ ks[j]? = some (some k)) → bothS q
  | [], _, _, _, h, _ => by simp [rngI] at h
  | k :: ks, p, q, 0, h, z => by
    simp only [rngI, List.getElem?_cons_zero, Option.some.injEq] at h
    subst h
    refine st_some (z.imp id fun ⟨j, i, hj, e⟩ => ?_)
    obtain rfl : j = 0 := by omega
    exact ⟨i, by simpa using e⟩
  | k :: ks, p, q, i + 1, h, z => by
    simp only [rngI, List.getElem?_cons_succ] at h
    refine rng_some ks _ q i h ?_
    rcases z with z | ⟨j, m, hj, e⟩
    · exact .inl (st_some (.inl z))
    · cases j with
      | zero => exact .inl (st_some (.inr ⟨m, by simpa using e⟩))
      | succ j => exact .inr ⟨j, m, by omega, by simpa using e⟩
theorem comb_some {x y : Bd} (h : bothS x ∨ bothS y) : bothS (combB x y) := by
  obtain ⟨a, c⟩ := x
  obtain ⟨d, e⟩ := y
  rcases h with ⟨⟨p, hp⟩, q, hq⟩ | ⟨⟨p, hp⟩, q, hq⟩ <;> simp only at hp hq <;> subst hp <;> subst hq
  · cases d <;> cases e <;> exact ⟨⟨_, rfl⟩, _, rfl⟩
  · cases a <;> cases c <;> exact ⟨⟨_, rfl⟩, _, rfl⟩
theorem zipW_get {α β γ : Type} {f : α → β → γ} {A : List α} {B : List β} {i : Nat} {z : γ} (h : (List.zipWith f A B)[i]? = some z) : ∃ x y, A[i]? = some x ∧ B[i]? = some y ∧ z = f x y := by
  rw [List.getElem?_zipWith] at h
  cases ha : A[i]? with
  | none => simp [ha] at h
  | some x =>
    cases hb : B[i]? with
    | none => simp [ha, hb] at h
    | some y =>
      simp only [ha, hb, Option.some.injEq] at h
      exact ⟨x, y, rfl, rfl, h.symm⟩
theorem comb_told {r b : Int} (ks : List (Option Int)) (i : Nat) (q : Bd) (h : (combL (bdsI r b ks) (bwdB r b ks))[i]? = some q) {k : Int} (hk : some k ∈ ks) : bothS q := by
  obtain ⟨j, hj, e⟩ := List.mem_iff_getElem.mp hk
  obtain ⟨x, y, h1, h2, rfl⟩ := zipW_get h
  refine comb_some ?_
  by_cases hji : j ≤ i
  · exact .inl (rng_some ks _ x i h1 (.inr ⟨j, k, hji, by rw [List.getElem?_eq_getElem hj, e]⟩))
  · have hi : i < ks.length := by omega
    unfold bwdB at h2
    have hl : (bdsI r b ks.reverse).length = ks.length := by simp [bdsI, rngI_len]
    rw [List.getElem?_reverse (by rw [hl]; exact hi), hl] at h2
    refine .inr (rng_some ks.reverse _ y _ h2 (.inr ⟨ks.length - 1 - j, k, by omega, ?_⟩))
    rw [List.getElem?_reverse (by omega), ← e, ← List.getElem?_eq_getElem hj]
    congr 1
    omega
theorem none_told {r b : Int} : ∀ (ks : List (Option Int)), (∀ k, some k ∉ ks) → ∀ q ∈ bdsI r b ks, q = (none, none) := by
  have key : ∀ (ks : List (Option Int)), (∀ k, some k ∉ ks) → ∀ q ∈ rngI r b ks (none, none), q = (none, none) := by
    intro ks
    induction ks with
    | nil => intro _ q hq; simp [rngI] at hq
    | cons k ks ih =>
      intro h q hq
      cases k with
      | some k => exact absurd (by simp) (h k)
      | none =>
        simp only [rngI, stR, mvB, List.mem_cons] at hq
        rcases hq with rfl | hq
        · rfl
        · exact ih (fun k z => h k (by simp [z])) q hq
  exact key
end Fw

namespace Fw
open PySem L2 PyProof.Rows
/-! ## looks, walks: the program's checks -/
abbrev looksT (ls : List (Option Int)) : T := .tup (ls.map lookT)
abbrev intsT (ws : List Int) : T := .tup (ws.map T.int)
def FARn : Int := 100000000000000000000000000000000
def lookIn (k : Option Int) : Prop := ∀ i, k = some i → -100000000000000000000000000000000 ≤ i ∧ i ≤ 100000000000000000000000000000000
theorem is_look_ok (n : Nat) (k : Option Int) (S : Sto) (hk : lookIn k) : runO prg (n + 2) i_is_look [lookT k] S = some (.ok (.bl true) S) := by
  rw [run_succ prg (n + 1) i_is_look _ S fd_is_look rfl rfl]
  cases k with
  | none => simp [fd_is_look, init, lookT, cop]
  | some i =>
    obtain ⟨h1, h2⟩ := hk i rfl
    have := is_from_ok n (.int i) (-100000000000000000000000000000000) 100000000000000000000000000000000 S rfl
    simp [isI, h1, h2] at this
    simp [fd_is_look, init, lookT, cop, cvals, this]
theorem are_looks_ok (n : Nat) (ls : List (Option Int)) (S : Sto) (hl : ls.length ≤ 100) (hk : ∀ k ∈ ls, lookIn k) : runO prg (n + 3) i_are_looks [looksT ls] S = some (.ok (.bl true) S) := by
  rw [run_succ prg (n + 2) i_are_looks _ S fd_are_looks rfl rfl]
  have e := fun (ρ : Rho) (hρ : ρ = [some (looksT ls), none]) => lcL_encM (g := lcT (evO prg (n + 2)) (.call i_is_look (.cons (.var 1) .nil)) (.nm 1) (.lit (.bl true)) ρ) lookT (fun _ => T.bl true) (S := S) ls (fun k hkm => by
    subst hρ
    simp [lcT, bindT, is_look_ok, hk k hkm]) (by simp only [line]; omega)
  have e := e _ rfl
  have b : boolsOf (ls.map fun _ => T.bl true) = some (ls.map fun _ => true) := boolsOf_map _ _
  have a : (ls.map fun _ => true).all id = true := by simp
  have hl' : (ls.length : Int) ≤ 100 := by omega
  simp [fd_are_looks, init, isiT, tyT, wipeR, e, b, a, hl']
theorem need_looks_ok (n : Nat) (ls : List (Option Int)) (S : Sto) (hl : ls.length ≤ 100) (hk : ∀ k ∈ ls, lookIn k) : runO prg (n + 4) i_need_looks [looksT ls] S = some (.ok .non S) := by
  rw [run_succ prg (n + 3) i_need_looks _ S fd_need_looks rfl rfl]
  simp [fd_need_looks, init, are_looks_ok n ls S hl hk]
/-- a walk at the pace r -/
def stepsOk (r : Int) : List Int → Prop
  | x :: y :: l => absI (x - y) ≤ r ∧ stepsOk r (y :: l)
  | _ => True
def placeIn (i : Int) : Prop := -100000000000000000000000000000000 ≤ i ∧ i ≤ 100000000000000000000000000000000
theorem goodWk_of {r : Int} {ws : List Int} (hl : ws.length ≤ 100) (hw : ∀ i ∈ ws, placeIn i) (hs : stepsOk r ws) : goodWk r (intsT ws) = true := by
  simp only [goodWk, Bool.and_eq_true, decide_eq_true_eq, List.length_map, List.all_map, List.all_eq_true]
  refine ⟨hl, fun i hi => ?_, ?_⟩
  · have := hw i hi
    simp [isI, this.1, this.2]
  · clear hl hw
    induction ws with
    | nil => intro x hx; simp [zipT] at hx
    | cons a ws ih =>
      cases ws with
      | nil => intro x hx; simp [zipT] at hx
      | cons b ws =>
        intro x hx
        simp only [List.map_cons, List.tail_cons, zipT, List.mem_cons] at hx ih
        rcases hx with rfl | hx
        · simp only [stepB, decide_eq_true_eq]; exact hs.1
        · exact ih hs.2 x hx
theorem intsT_pl (ws : List Int) : pl2 (intsT ws) := by
  refine ⟨rfl, fun l h x hx => ?_⟩
  cases h
  obtain ⟨i, _, rfl⟩ := List.mem_map.mp hx
  rfl
theorem need_walk_ok (n : Nat) (a b c : Int) (ws : List Int) (S : Sto) (hl : ws.length ≤ 100) (hw : ∀ i ∈ ws, placeIn i) (hs : stepsOk a ws) : runO prg (n + 3) i_need_walk [mkWd a b c, intsT ws] S = some (.ok .non S) := by
  rw [run_succ prg (n + 2) i_need_walk _ S fd_need_walk rfl rfl]
  simp [fd_need_walk, init, igk_ok, intsT_pl, goodWk_of hl hw hs]
theorem mkW_pl (a b c d e f : Int) (g : Str) : pl2 (mkW a b c d e f g) := by
  refine ⟨rfl, fun l h x hx => ?_⟩
  unfold mkW at h
  cases h
  simp at hx
  rcases hx with rfl | rfl | rfl | rfl | rfl | rfl | rfl <;> rfl
/-- a watcher of any fence -/
def WGood (a b c d e f : Int) (g : Str) : Prop := -1000000000000000000000000000000 ≤ a ∧ a ≤ b ∧ b ≤ 1000000000000000000000000000000 ∧ 0 ≤ c ∧ c ≤ 3 ∧ 0 ≤ d ∧ d ≤ 3 ∧ 1 ≤ e ∧ e ≤ 3 ∧ 1 ≤ f ∧ f ≤ 3 ∧ (g = Str.ofString "keep" ∨ g = Str.ofString "drop")
theorem WOk.good {w a b c d e f : Int} {g : Str} (h : WOk w a b c d e f g) (hw : w ≤ 1000) : WGood a b c d e f g := by
  obtain ⟨h1, h2, h3, h4, h5, h6, h7, h8, h9, h10, h11, h12, h13⟩ := h
  exact ⟨by omega, h3, by omega, h5, h6, h7, h8, h9, h10, h11, h12, h13⟩
theorem mkW_good {a b c d e f : Int} {g : Str} (h : WGood a b c d e f g) : goodW (mkW a b c d e f g) = true := by
  obtain ⟨h1, h2, h3, h4, h5, h6, h7, h8, h9, h10, h11, h12⟩ := h
  have q1 : a ≤ 1000000000000000000000000000000 := by omega
  have q2 : -1000000000000000000000000000000 ≤ b := by omega
  have k : isKD (.str g) = true := by
    rcases h12 with rfl | rfl <;> decide
  simp [goodW, mkW, isI, h1, h2, h3, h4, h5, h6, h7, h8, h9, h10, h11, q1, q2, leT, k]
theorem need_watcher_ok (n : Nat) (t : T) (S : Sto) (hpl : pl2 t) (hg : goodW t = true) : runO prg (n + 3) i_need_watcher [t] S = some (.ok .non S) := by
  rw [run_succ prg (n + 2) i_need_watcher _ S fd_need_watcher rfl rfl]
  simp [fd_need_watcher, init, igw_ok, hpl, hg]
/-! lost looks in a row -/
def stL (q : Int × Int) (k : Option Int) : Int × Int := (if (if k = none then q.2 + 1 else 0) > q.1 then (if k = none then q.2 + 1 else 0) else q.1, if k = none then q.2 + 1 else 0)
def lostR (ls : List (Option Int)) : Int := (ls.foldl stL (0, 0)).1
theorem lost_runs_ok (n : Nat) (ls : List (Option Int)) (S : Sto) : runO prg (n + 1) i_lost_runs [looksT ls] S = some (.ok (.int (lostR ls)) S) := by
  rw [run_succ prg n i_lost_runs _ S fd_lost_runs rfl rfl]
  obtain ⟨ρ', S', e, lk, rfl, rfl⟩ := forL_pre (g := frT (evO prg n) (.nm 1) (.seq (.asg (.nm 3) (.ite (.cmp .Is (.var 1) (.lit .non)) (.op false .Add (.var 3) (.lit (.int 1))) (.lit (.int 0)))) (.seq (.asg (.nm 2) (.blt false .max (.cons (.var 2) (.cons (.var 3) .nil)))) .skip))) lookT
    (fun pre ρ S' => ∃ lk, ρ = [some (looksT ls), lk, some (.int (pre.foldl stL (0, 0)).1), some (.int (pre.foldl stL (0, 0)).2)] ∧ S' = S) ls (fun pre k post _ ρ S' hi => by
      obtain ⟨lk, rfl, rfl⟩ := hi
      refine ⟨_, _, .inl ?_, some (lookT k), rfl, rfl⟩
      rw [List.foldl_append]
      generalize pre.foldl stL (0, 0) = q
      cases k <;> simp [frT, bindT, cop, lookT, stL]) (ρ := [some (looksT ls), none, some (.int 0), some (.int 0)]) (S := S) ⟨none, rfl, rfl⟩
  simp [fd_lost_runs, init, bindT, line, e, lostR]
/-! looks that go with a walk -/
def okPair (b : Int) (p : Int × Option Int) : Bool := match p.2 with
  | none => true
  | some k => decide (absI (k - p.1) ≤ b)
def goB (b l : Int) (ws : List Int) (ls : List (Option Int)) : Bool := decide (lostR ls ≤ l) && (ws.zip ls).all (okPair b)
def prL (p : Int × Option Int) : T := .tup [.int p.1, lookT p.2]
theorem zipT_pr : ∀ (ws : List Int) (ls : List (Option Int)), zipT (ws.map T.int) (ls.map lookT) = (ws.zip ls).map prL
  | [], _ => by simp [zipT]
  | _ :: _, [] => by simp [zipT]
  | a :: ws, k :: ls => by simp [zipT, zipT_pr ws ls, prL]
theorem goes_ok (n : Nat) (r b l : Int) (ws : List Int) (ls : List (Option Int)) (S : Sto) (hl : ws.length = ls.length) (h1 : ws.length ≤ 1000) : runO prg (n + 2) i_goes [mkWd r b l, intsT ws, looksT ls] S = some (.ok (.bl (goB b l ws ls)) S) := by
  rw [run_succ prg (n + 1) i_goes _ S fd_goes rfl rfl]
  have e := fun (ρ : Rho) (hρ : ρ = [some (mkWd r b l), some (intsT ws), some (looksT ls), none, none]) => lcL_encM (g := lcT (evO prg (n + 1)) (.or (.cmp .Is (.var 4) (.lit .non)) (.cmp .LtE (.blt false .abs (.cons (.op false .Sub (.var 4) (.var 3)) .nil)) (.ix (.var 0) (.lit (.int 1))))) (.tp (.cn (.nm 3) (.cn (.nm 4) .nl))) (.lit (.bl true)) ρ) prL (fun p => T.bl (okPair b p)) (S := S) (ws.zip ls) (fun p hp => by
    subst hρ
    obtain ⟨w, k⟩ := p
    cases k with
    | none => simp [lcT, bindT, prL, lookT, cop, okPair]
    | some k =>
      by_cases q : absI (k - w) ≤ b
      · have q' := q
        unfold absI at q'
        simp [lcT, bindT, prL, lookT, cop, okPair, mkWd, q, q']
      · have q' := q
        unfold absI at q'
        simp [lcT, bindT, prL, lookT, cop, okPair, mkWd, q, q']) (by simp only [line, List.length_zip]; omega)
  have e := e _ rfl
  have bo : boolsOf ((ws.zip ls).map fun p => T.bl (okPair b p)) = some ((ws.zip ls).map (okPair b)) := boolsOf_map _ _
  have m2 := mkWd_at S r b l
  by_cases h : l < lostR ls
  · have h' : ¬ lostR ls ≤ l := by omega
    simp [fd_goes, init, hl, lost_runs_ok, h, goB, h', m2]
  · have h' : lostR ls ≤ l := by omega
    simp [fd_goes, init, hl, lost_runs_ok, h, goB, h', m2, wipeR, zipT_pr, e, bo, all_map_id]
/-! how often a watcher is wrong -/
def wrSt (a b c d e f : Int) (g : Str) (q : Int × Bool × Int) (p : Int × Option Int) : Int × Bool × Int :=
  let s := stepI e f (isKeep g) q.2.1 q.2.2 (wordL a b c d p.2)
  (q.1 + (if s.1 ≠ decide (0 ≤ depI a b p.1) then 1 else 0), s.1, s.2.1)
def wrI (a b c d e f : Int) (g : Str) (q : Int × Bool × Int) (ps : List (Int × Option Int)) : Int × Bool × Int := ps.foldl (wrSt a b c d e f g) q
theorem co_bl (S : Sto) (p q : Bool) : cop S .Eq (.bl p) (.bl q) = some (p == q) := by
  simp [cop, eqT, toD, shal, PyData.depth, PyData.eqv]
theorem co_blN (S : Sto) (p q : Bool) : cop S .NotEq (.bl p) (.bl q) = some (!(p == q)) := by
  simp [cop, eqT, toD, shal, PyData.depth, PyData.eqv]
theorem bl_intB (S : Sto) (k : Bool) : bltT S .int [.bl k] = some (.int (if k then 1 else 0)) := rfl
theorem wrongs_ok (n : Nat) (a b c d e f : Int) (g : Str) (w : Bool) (row : Int) (ws : List Int) (ls : List (Option Int)) (S : Sto) :
    runO prg (n + 3) i_wrongs [mkW a b c d e f g, stT w row, intsT ws, looksT ls] S = some (.ok (.tup [.int (wrI a b c d e f g (0, w, row) (ws.zip ls)).1, stT (wrI a b c d e f g (0, w, row) (ws.zip ls)).2.1 (wrI a b c d e f g (0, w, row) (ws.zip ls)).2.2]) S) := by
  rw [run_succ prg (n + 2) i_wrongs _ S fd_wrongs rfl rfl]
  obtain ⟨ρ', S', e1, x, y, z, rfl, rfl⟩ := forL_pre (g := frT (evO prg (n + 2)) (.tp (.cn (.nm 5) (.cn (.nm 6) .nl))) (.seq (.asg (.tp (.cn (.nm 1) (.cn (.nm 7) .nl))) (.call 8 (.cons (.var 0) (.cons (.var 1) (.cons (.call 7 (.cons (.var 0) (.cons (.var 6) .nil))) .nil))))) (.seq (.asg (.nm 4) (.op false .Add (.var 4) (.blt false .int (.cons (.cmp .NotEq (.ix (.var 1) (.lit (.int 0))) (.cmp .GtE (.call 5 (.cons (.var 0) (.cons (.var 5) .nil))) (.lit (.int 0)))) .nil)))) .skip))) prL
    (fun pre ρ S' => ∃ x y z, ρ = [some (mkW a b c d e f g), some (stT (wrI a b c d e f g (0, w, row) pre).2.1 (wrI a b c d e f g (0, w, row) pre).2.2), some (intsT ws), some (looksT ls), some (.int (wrI a b c d e f g (0, w, row) pre).1), x, y, z] ∧ S' = S) (ws.zip ls) (fun pre p post _ ρ S' hi => by
      obtain ⟨x, y, z, rfl, rfl⟩ := hi
      refine ⟨_, _, .inl ?_, some (.int p.1), some (lookT p.2), some (stepI e f (isKeep g) (wrI a b c d e f g (0, w, row) pre).2.1 (wrI a b c d e f g (0, w, row) pre).2.2 (wordL a b c d p.2)).2.2.t, rfl, rfl⟩
      · have h1 := fun S => look_word_ok n a b c d e f g p.2 S
        have h2 := fun w row x S => stepped_ok (n + 1) a b c d e f g w row x S
        have h3 := fun S => depth_of_ok (n + 1) a b p.1 [.int c, .int d, .int e, .int f, .str g] S
        have h3 : ∀ S, runO prg (n + 2) i_depth_of [mkW a b c d e f g, .int p.1] S = _ := h3
        unfold wrI
        rw [List.foldl_append]
        generalize pre.foldl (wrSt a b c d e f g) (0, w, row) = q
        obtain ⟨q1, q2, q3⟩ := q
        simp only [List.foldl_cons, List.foldl_nil, wrSt]
        generalize hs : stepI e f (isKeep g) q2 q3 (wordL a b c d p.2) = s at *
        have h4 : ∀ S, runO prg (n + 2) i_stepped [mkW a b c d e f g, stT q2 q3, .str (wordL a b c d p.2).s] S = some (.ok (.tup [stT s.1 s.2.1, s.2.2.t]) S) := fun S => by rw [h2, hs]
        have h5 : ∀ S, ixT S (stT s.1 s.2.1) (.int 0) = some (.bl s.1) := fun S => by simp [stT]
        obtain ⟨s1, s2, s3⟩ := s
        cases s1 <;> by_cases q : 0 ≤ depI a b p.1 <;> simp [frT, bindT, prL, h1, h4, h3, h5, co_blN, bl_intB, q]) (ρ := [some (mkW a b c d e f g), some (stT w row), some (intsT ws), some (looksT ls), some (.int 0), none, none, none]) (S := S) ⟨none, none, none, rfl, rfl⟩
  simp [fd_wrongs, init, bindT, line, zipT_pr, e1]
/-! bounds -/
def prB (p : Bd) : T := .tup [lookT p.1, lookT p.2]
theorem moved_by_ok (n : Nat) (o : Option Int) (x : Int) (S : Sto) : runO prg (n + 1) i_moved_by [lookT o, .int x] S = some (.ok (lookT (mvB o x)) S) := by
  rw [run_succ prg n i_moved_by _ S fd_moved_by rfl rfl]
  cases o <;> simp [fd_moved_by, init, lookT, cop, mvB]
theorem greater_ok (n : Nat) (o p : Option Int) (S : Sto) : runO prg (n + 1) i_greater [lookT o, lookT p] S = some (.ok (lookT (grB o p)) S) := by
  rw [run_succ prg n i_greater _ S fd_greater rfl rfl]
  cases o <;> cases p <;> simp [fd_greater, init, lookT, cop, grB]
theorem lesser_ok (n : Nat) (o p : Option Int) (S : Sto) : runO prg (n + 1) i_lesser [lookT o, lookT p] S = some (.ok (lookT (lsB o p)) S) := by
  rw [run_succ prg n i_lesser _ S fd_lesser rfl rfl]
  cases o <;> cases p <;> simp [fd_lesser, init, lookT, cop, lsB]
def rgSt (r b : Int) (q : List Bd × Bd) (k : Option Int) : List Bd × Bd := (q.1 ++ [stR r b q.2 k], stR r b q.2 k)
theorem rg_fold (r b : Int) : ∀ (ks : List (Option Int)) (acc : List Bd) (p : Bd), (ks.foldl (rgSt r b) (acc, p)).1 = acc ++ rngI r b ks p
  | [], acc, p => by simp [rngI]
  | k :: ks, acc, p => by simp [rngI, rgSt, rg_fold r b ks]
theorem rg_fold_len (r b : Int) (ks : List (Option Int)) (acc : List Bd) (p : Bd) : (ks.foldl (rgSt r b) (acc, p)).1.length = acc.length + ks.length := by
  rw [rg_fold]; simp [rngI_len]
theorem lookT_n : lookT none = .non := id rfl
theorem lookT_s (i : Int) : lookT (some i) = .int i := id rfl
theorem ranges_ok (n : Nat) (r b l : Int) (ls : List (Option Int)) (S : Sto) (h : ls.length ≤ 1000) : runO prg (n + 2) i_ranges [mkWd r b l, looksT ls] S = some (.ok (.lst ((bdsI r b ls).map prB)) S) := by
  rw [run_succ prg (n + 1) i_ranges _ S fd_ranges rfl rfl]
  obtain ⟨ρ', S', e1, x, rfl, rfl⟩ := forL_pre (g := frT (evO prg (n + 1)) (.nm 2) (.seq (.par2 4 5 (.cons (.call 17 (.cons (.var 4) (.cons (.op false .Sub (.lit (.int 0)) (.ix (.var 0) (.lit (.int 0)))) .nil))) (.cons (.call 17 (.cons (.var 5) (.cons (.ix (.var 0) (.lit (.int 0))) .nil))) .nil))) (.seq (.iff (.cmp .IsNot (.var 2) (.lit .non)) (.seq (.par2 4 5 (.cons (.call 18 (.cons (.var 4) (.cons (.op false .Sub (.var 2) (.ix (.var 0) (.lit (.int 1)))) .nil))) (.cons (.call 19 (.cons (.var 5) (.cons (.op false .Add (.var 2) (.ix (.var 0) (.lit (.int 1)))) .nil))) .nil))) .skip) .skip) (.seq (.asg (.nm 3) (.op false .Add (.var 3) (.lst false (.cons (.tup (.cons (.var 4) (.cons (.var 5) .nil))) .nil)))) .skip)))) lookT
    (fun pre ρ S' => ∃ x, ρ = [some (mkWd r b l), some (looksT ls), x, some (.lst ((pre.foldl (rgSt r b) ([], (none, none))).1.map prB)), some (lookT (pre.foldl (rgSt r b) ([], (none, none))).2.1), some (lookT (pre.foldl (rgSt r b) ([], (none, none))).2.2)] ∧ S' = S) ls (fun pre k post hp ρ S' hi => by
      obtain ⟨x, rfl, rfl⟩ := hi
      refine ⟨_, _, .inl ?_, some (lookT k), rfl, rfl⟩
      have hlen := rg_fold_len r b pre [] (none, none)
      have hb : pre.length < 1000 := by
        have := congrArg List.length hp
        simp at this; omega
      rw [List.foldl_append]
      generalize pre.foldl (rgSt r b) ([], (none, none)) = q at *
      obtain ⟨q1, q2, q3⟩ := q
      simp only [List.length_nil, Nat.zero_add] at hlen
      have hb2 : q1.length + 1 ≤ 16777216 := by omega
      have m0 : ∀ S, _ := mkWd_at (a := r) (b := b) (c := l)
      have g1 : ∀ (o : Option Int) (i : Int) S, runO prg (n + 1) i_greater [lookT o, .int i] S = some (.ok (lookT (grB o (some i))) S) := fun o i S => greater_ok n o (some i) S
      have g2 : ∀ (o : Option Int) (i : Int) S, runO prg (n + 1) i_lesser [lookT o, .int i] S = some (.ok (lookT (lsB o (some i))) S) := fun o i S => lesser_ok n o (some i) S
      cases k with
      | none => simp [frT, bindT, m0, moved_by_ok, lookT_n, cop, line, bq_addL, hb2, rgSt, stR, prB]
      | some k => simp [frT, bindT, m0, moved_by_ok, lookT_s, cop, line, bq_addL, hb2, rgSt, stR, prB, g1, g2]) (ρ := [some (mkWd r b l), some (looksT ls), none, some (.lst []), some .non, some .non]) (S := S) ⟨none, rfl, rfl⟩
  have e2 := rg_fold r b ls [] (none, none)
  simp only [List.nil_append] at e2
  simp [fd_ranges, init, bindT, line, e1, e2, bdsI]
end Fw

namespace Fw
open PySem L2 PyProof.Rows
/-! ## places told -/
theorem absI_e (x : Int) : (if x < 0 then -x else x) = absI x := rfl
theorem eq_nil {l : List T} (h : (toDs l).isSome = true) : eqT (.lst l) (.lst []) = some l.isEmpty := by
  obtain ⟨ds, e⟩ := Option.isSome_iff_exists.mp h
  cases l with
  | nil => rfl
  | cons x l =>
    cases ds with
    | nil =>
      simp only [toDs] at e
      split at e
      · split at e <;> cases e
      · cases e
    | cons d ds =>
      have e1 : toD (.lst (x :: l)) = some (.list (d :: ds)) := by simp only [toD, e]
      have e0 : toD (.lst []) = some (.list []) := rfl
      have e2 : shal (.list (d :: ds)) (.list []) = true := by simp [shal, PyData.depth, PyData.depthAll]
      simp only [eqT, e1, e0, e2, if_true]
      rfl
theorem co_nil {S : Sto} {l : List T} (h : (toDs l).isSome = true) : cop S .Eq (.lst l) (.lst []) = some l.isEmpty := by
  simp only [cop, drf_lst]; exact eq_nil h
theorem co_nilN {S : Sto} {l : List T} (h : (toDs l).isSome = true) : cop S .NotEq (.lst l) (.lst []) = some (!l.isEmpty) := by
  simp only [cop, drf_lst, eq_nil h]
theorem toDs_ints : ∀ l : List Int, toDs (l.map T.int) = some (l.map PyData.int)
  | [] => rfl
  | a :: l => by simp [toDs, toD, toDs_ints l]
def intsL (l : List Int) : T := .lst (l.map T.int)
theorem toD_intsL (l : List Int) : toD (intsL l) = some (.list (l.map PyData.int)) := by simp [intsL, toD, toDs_ints]
theorem toDs_intsL : ∀ L : List (List Int), toDs (L.map intsL) = some (L.map fun l => .list (l.map PyData.int))
  | [] => rfl
  | a :: l => by simp [toDs, toD_intsL, toDs_intsL l]
theorem zipT_map {α β : Type} (f : α → T) (g : β → T) : ∀ (A : List α) (B : List β), zipT (A.map f) (B.map g) = (A.zip B).map fun p => .tup [f p.1, g p.2]
  | [], _ => by simp [zipT]
  | _ :: _, [] => by simp [zipT]
  | a :: A, b :: B => by simp [zipT, zipT_map f g A B]
theorem combL_zip (A B : List Bd) : combL A B = (A.zip B).map fun p => combB p.1 p.2 := by
  rw [combL, List.zip, List.map_zipWith]
theorem zip_self {α β γ : Type} (f : α → β) (g : α → γ) (l : List α) : (l.map f).zip (l.map g) = l.map fun x => (f x, g x) := by
  induction l with
  | nil => rfl
  | cons a l ih => simp [ih]
def plT (r b l : Int) (ls : List (Option Int)) (i : Nat) : T :=
  if (combL (bdsI r b ls) (bwdB r b ls)).any badB = true ∨ l < lostR ls then .non else match (combL (bdsI r b ls) (bwdB r b ls))[i]? with
  | some p => prB p
  | none => .non
theorem revI (r b l : Int) (n : Nat) (ls : List (Option Int)) (S : Sto) (h : ls.length ≤ 1000) : runO prg (n + 2) i_ranges [mkWd r b l, .tup ((ls.map lookT).reverse)] S = some (.ok (.lst ((bdsI r b ls.reverse).map prB)) S) := by
  have := ranges_ok n r b l ls.reverse S (by simpa using h)
  rw [← List.map_reverse]; exact this
theorem bads_map (C : List Bd) : (C.filterMap fun p => if badB p = true then some (T.int 1) else none) = (C.filter badB).map fun _ => T.int 1 := by
  induction C with
  | nil => rfl
  | cons a C ih =>
    by_cases q : badB a = true <;> simp [q, ih]
theorem places_told_ok (n : Nat) (r b l : Int) (hw : WdOk r b l) (ls : List (Option Int)) (hl : ls.length ≤ 100) (hk : ∀ k ∈ ls, lookIn k) (i : Nat) (hi : i < ls.length) (S : Sto) :
    runO prg (n + 5) i_places_told [mkWd r b l, looksT ls, .int i] S = some (.ok (plT r b l ls i) S) := by
  rw [run_succ prg (n + 4) i_places_told _ S fd_places_told rfl rfl]
  have lA : (bdsI r b ls).length = ls.length := by simp [bdsI, rngI_len]
  have lB : (bwdB r b ls).length = ls.length := by simp [bwdB, bdsI, rngI_len]
  have lC : (combL (bdsI r b ls) (bwdB r b ls)).length = ls.length := by simp [combL, lA, lB]
  have z1 : zipT ((bdsI r b ls).map prB) (((bdsI r b ls.reverse).map prB).reverse) = ((bdsI r b ls).zip (bwdB r b ls)).map fun p => .tup [prB p.1, prB p.2] := by
    rw [← List.map_reverse]; exact zipT_map _ _ _ _
  have e1 := fun (a3 a4 a5 a6 a7 : Option T) (S : Sto) => lcL_encM (g := lcT (evO prg (n + 4)) (.call 18 (.cons (.ix (.var 8) (.lit (.int 0))) (.cons (.ix (.var 9) (.lit (.int 0))) .nil))) (.tp (.cn (.nm 8) (.cn (.nm 9) .nl))) (.lit (.bl true)) [some (mkWd r b l), some (looksT ls), some (.int i), a3, a4, a5, a6, a7, none, none]) (fun p : Bd × Bd => T.tup [prB p.1, prB p.2]) (fun p => lookT (combB p.1 p.2).1) (S := S) ((bdsI r b ls).zip (bwdB r b ls)) (fun p _ => by
    simp [lcT, bindT, prB, greater_ok, combB]) (by simp only [line, List.length_zip]; omega)
  have e2 := fun (a3 a4 a5 a6 a7 : Option T) (S : Sto) => lcL_encM (g := lcT (evO prg (n + 4)) (.call 19 (.cons (.ix (.var 8) (.lit (.int 1))) (.cons (.ix (.var 9) (.lit (.int 1))) .nil))) (.tp (.cn (.nm 8) (.cn (.nm 9) .nl))) (.lit (.bl true)) [some (mkWd r b l), some (looksT ls), some (.int i), a3, a4, a5, a6, a7, none, none]) (fun p : Bd × Bd => T.tup [prB p.1, prB p.2]) (fun p => lookT (combB p.1 p.2).2) (S := S) ((bdsI r b ls).zip (bwdB r b ls)) (fun p _ => by
    simp [lcT, bindT, prB, lesser_ok, combB]) (by simp only [line, List.length_zip]; omega)
  have m1 : (((bdsI r b ls).zip (bwdB r b ls)).map fun p => lookT (combB p.1 p.2).1) = (combL (bdsI r b ls) (bwdB r b ls)).map fun q => lookT q.1 := by rw [combL_zip, List.map_map]; rfl
  have m2 : (((bdsI r b ls).zip (bwdB r b ls)).map fun p => lookT (combB p.1 p.2).2) = (combL (bdsI r b ls) (bwdB r b ls)).map fun q => lookT q.2 := by rw [combL_zip, List.map_map]; rfl
  simp only [m1] at e1
  simp only [m2] at e2
  generalize hC : combL (bdsI r b ls) (bwdB r b ls) = C at *
  have z2 : zipT (C.map fun q => lookT q.1) (C.map fun q => lookT q.2) = C.map prB := by
    rw [zipT_map (fun q : Bd => lookT q.1) (fun q : Bd => lookT q.2) C C]
    have : C.zip C = C.map fun q => (q, q) := by
      have := zip_self (fun q : Bd => q) (fun q : Bd => q) C
      simpa using this
    rw [this, List.map_map]; rfl
  have e3 := fun (a3 a4 a5 a6 a7 : Option T) (S : Sto) => lcL_enc (g := lcT (evO prg (n + 4)) (.lit (.int 1)) (.tp (.cn (.nm 8) (.cn (.nm 9) .nl))) (.and (.cmp .IsNot (.var 8) (.lit .non)) (.and (.cmp .IsNot (.var 9) (.lit .non)) (.cmp .Gt (.var 8) (.var 9)))) [some (mkWd r b l), some (looksT ls), some (.int i), a3, a4, a5, a6, a7, none, none]) prB (f := fun p => if badB p = true then some (.int 1) else none) (S := S) C (fun p _ => by
    obtain ⟨x, y⟩ := p
    cases x <;> cases y <;> simp [lcT, bindT, prB, lookT, cop, badB]
    split <;> simp_all) (by simp only [line]; omega)
  have f3 := bads_map C
  rw [f3] at e3
  have d3 : (toDs ((C.filter badB).map fun _ => T.int 1)).isSome = true := by
    have := toDs_ints ((C.filter badB).map fun _ => (1 : Int))
    rw [List.map_map] at this
    rw [show ((fun _ : Bd => T.int 1)) = (T.int ∘ fun _ => (1 : Int)) from rfl, this]; rfl
  have n3 := fun S => co_nilN (S := S) d3
  have hif := is_from_ok (n + 3) (.int i) 0 ((ls.length : Int) - 1) S rfl
  have ht : isI 0 ((ls.length : Int) - 1) (.int i) = true := by
    simp [isI]; omega
  rw [ht] at hif
  have nw := fun S => need_world_ok (n + 1) (mkWd r b l) S (mkWd_pl r b l) (mkWd_good hw)
  have nl := fun S => need_looks_ok n ls S hl hk
  have r1 := fun S => ranges_ok (n + 2) r b l ls S (by omega)
  have r2 := fun S => revI r b l (n + 2) ls S (by omega)
  have lr := fun S => lost_runs_ok (n + 3) ls S
  have m0 : ∀ S, _ := mkWd_at (a := r) (b := b) (c := l)
  have hCi : i < C.length := by omega
  have at1 : ∀ f : Bd → T, atI (C.map f) (i : Int) = some (f C[i]) := fun f => by
    rw [atI_k _ _ (by simpa using hCi)]; simp [hCi]
  unfold plT
  rw [hC]
  by_cases hb : C.any badB = true
  · have : ((C.filter badB).map fun _ => T.int 1).isEmpty = false := by
      rw [List.any_eq_true] at hb
      obtain ⟨x, hx, hb⟩ := hb
      cases q : (C.filter badB) with
      | nil => exact absurd (List.mem_filter.mpr ⟨hx, hb⟩) (by rw [q]; simp)
      | cons y l => simp
    rw [if_pos (.inl hb)]
    simp [fd_places_told, init, nw, nl, hif, r1, r2, z1, wipeR, e1, e2, z2, e3, n3, this, bindT]
  · have : ((C.filter badB).map fun _ => T.int 1).isEmpty = true := by
      cases q : (C.filter badB) with
      | nil => rfl
      | cons y l =>
        have : y ∈ C.filter badB := by rw [q]; simp
        obtain ⟨h1, h2⟩ := List.mem_filter.mp this
        exact absurd (List.any_eq_true.mpr ⟨y, h1, h2⟩) hb
    by_cases hlr : l < lostR ls
    · rw [if_pos (.inr hlr)]
      simp [fd_places_told, init, nw, nl, hif, r1, r2, z1, wipeR, e1, e2, z2, e3, n3, this, bindT, lr, m0, hlr]
    · rw [if_neg (by rintro (h | h) <;> contradiction)]
      simp [fd_places_told, init, nw, nl, hif, r1, r2, z1, wipeR, e1, e2, z2, e3, n3, this, bindT, lr, m0, hlr, at1, line, hCi]
      rfl
theorem go_with_ok (n : Nat) (r b l : Int) (hw : WdOk r b l) (ws : List Int) (ls : List (Option Int)) (S : Sto) (hl : ws.length = ls.length) (h1 : ws.length ≤ 100) (hp : ∀ i ∈ ws, placeIn i) (hs : stepsOk r ws) (hk : ∀ k ∈ ls, lookIn k) :
    runO prg (n + 5) i_go_with [mkWd r b l, intsT ws, looksT ls] S = some (.ok (.bl (goB b l ws ls)) S) := by
  rw [run_succ prg (n + 4) i_go_with _ S fd_go_with rfl rfl]
  have nw := fun S => need_world_ok (n + 1) (mkWd r b l) S (mkWd_pl r b l) (mkWd_good hw)
  have nk := fun S => need_walk_ok (n + 1) r b l ws S h1 hp hs
  have nl := fun S => need_looks_ok n ls S (by omega) hk
  have g := fun S => goes_ok (n + 2) r b l ws ls S hl (by omega)
  simp [fd_go_with, init, nw, nk, nl, g]
theorem wrong_looks_ok (n : Nat) (a0 b0 c d e f : Int) (g : Str) (hW : WGood a0 b0 c d e f g) (r b l : Int) (hw : WdOk r b l) (ws : List Int) (ls : List (Option Int)) (S : Sto) (hl : ws.length = ls.length) (h1 : ws.length ≤ 100) (hp : ∀ i ∈ ws, placeIn i) (hs : stepsOk r ws) (hk : ∀ k ∈ ls, lookIn k)
    (hg : goB b l ws ls = true) : runO prg (n + 5) i_wrong_looks [mkW a0 b0 c d e f g, mkWd r b l, intsT ws, looksT ls] S = some (.ok (.int (wrI a0 b0 c d e f g (0, false, 0) (ws.zip ls)).1) S) := by
  rw [run_succ prg (n + 4) i_wrong_looks _ S fd_wrong_looks rfl rfl]
  have nc := fun S => need_watcher_ok (n + 1) (mkW a0 b0 c d e f g) S (mkW_pl ..) (mkW_good hW)
  have nw := fun S => need_world_ok (n + 1) (mkWd r b l) S (mkWd_pl r b l) (mkWd_good hw)
  have nk := fun S => need_walk_ok (n + 1) r b l ws S h1 hp hs
  have nl := fun S => need_looks_ok n ls S (by omega) hk
  have g1 := fun S => goes_ok (n + 2) r b l ws ls S hl (by omega)
  rw [hg] at g1
  have w := fun S => wrongs_ok (n + 1) a0 b0 c d e f g false 0 ws ls S
  have w : ∀ S, runO prg (n + 4) i_wrongs [mkW a0 b0 c d e f g, .tup [.bl false, .int 0], intsT ws, looksT ls] S = _ := w
  simp [fd_wrong_looks, init, nc, nw, nk, nl, g1, w, line]
end Fw

namespace Fw
open PySem L2 PyProof.Rows
/-! ## the law's own looks at walks -/
theorem stL_mono : ∀ (ks : List (Option Int)) (q : Int × Int), q.1 ≤ (ks.foldl stL q).1
  | [], q => Int.le_refl _
  | k :: ks, q => by
    have h1 : q.1 ≤ (stL q k).1 := by
      simp only [stL]; split <;> omega
    exact Int.le_trans h1 (stL_mono ks (stL q k))
theorem stL_two (q : Int × Int) (k : Option Int) : (stL q k).2 = (if k = none then q.2 + 1 else 0) ∧ (stL q k).1 = if (stL q k).2 > q.1 then (stL q k).2 else q.1 := ⟨rfl, rfl⟩
theorem absI_neg (x y : Int) : absI (x - y) = absI (y - x) := by
  unfold absI; split <;> split <;> omega
theorem steps_get {r : Int} : ∀ {ws : List Int} {i : Nat} {x y : Int}, stepsOk r ws → ws[i]? = some x → ws[i + 1]? = some y → absI (y - x) ≤ r
  | [], i, x, y, _, h, _ => by simp at h
  | [a], i, x, y, _, h, h' => by simp at h'
  | a :: b :: ws, 0, x, y, hs, h, h' => by
    simp at h h'; subst h; subst h'
    rw [absI_neg]; exact hs.1
  | a :: b :: ws, i + 1, x, y, hs, h, h' => steps_get (i := i) hs.2 (by simpa using h) (by simpa using h')
def goCond : IE := (.and (.cmp .Gt (.var 4) (.lit (.int 0))) (.cmp .Gt (.blt false .abs (.cons (.op false .Sub (.ix (.var 1) (.var 4)) (.ix (.var 1) (.op false .Sub (.var 4) (.lit (.int 1))))) .nil)) (.ix (.var 0) (.lit (.int 0)))))
def goRest : IS := (.seq (.asg (.nm 3) (.ite (.cmp .Is (.ix (.var 2) (.var 4)) (.lit .non)) (.op false .Add (.var 3) (.lit (.int 1))) (.lit (.int 0)))) (.seq (.iff (.or (.cmp .Gt (.var 3) (.ix (.var 0) (.lit (.int 2)))) (.and (.cmp .IsNot (.ix (.var 2) (.var 4)) (.lit .non)) (.cmp .Gt (.blt false .abs (.cons (.op false .Sub (.ix (.var 2) (.var 4)) (.ix (.var 1) (.var 4))) .nil)) (.ix (.var 0) (.lit (.int 1)))))) (.seq (.ret (.lit (.bl false))) .skip) .skip) .skip))
def goBody : IS := .seq (.iff goCond (.seq (.ret (.lit (.bl false))) .skip) .skip) goRest
theorem go_split : fd_law_go.body = .seq (.asg (.nm 3) (.lit (.int 0))) (.seq (.for_ (.nm 4) (.rg1 (.blt false .len (.cons (.var 1) .nil))) goBody) (.seq (.ret (.cmp .Eq (.blt false .len (.cons (.var 1) .nil)) (.blt false .len (.cons (.var 2) .nil)))) .skip)) := rfl
theorem go_cond (E : EV) (r b l : Int) (ws : List Int) (L x : Option T) (S : Sto) (hs : stepsOk r ws) (i : Nat) (w : Int) (hw : ws[i]? = some w) :
    evE E goCond [some (mkWd r b l), some (intsT ws), L, x, some (.int (i : Nat))] S = some (.ok (.bl false) S) := by
  have hil : i < ws.length := (List.getElem?_eq_some_iff.mp hw).1
  have m0 : ∀ S, _ := mkWd_at (a := r) (b := b) (c := l)
  cases i with
  | zero => simp [goCond]
  | succ j =>
    have a1 : ∀ S, ixT S (intsT ws) (.int ((j + 1 : Nat) : Int)) = some (.int w) := fun S => by
      rw [ix_tup, atI_k _ _ (by simpa using hil), List.getElem?_map, hw]; rfl
    have hj : j < ws.length := by omega
    have e : (((j + 1 : Nat) : Int)) - 1 = (j : Nat) := by omega
    have a3 : ∀ S, ixT S (intsT ws) (.int (j : Nat)) = some (.int ws[j]) := fun S => by
      rw [ix_tup, atI_k _ _ (by simpa using hj), List.getElem?_map, List.getElem?_eq_getElem hj]; rfl
    have st := steps_get hs (List.getElem?_eq_getElem hj) hw
    have st' : ¬ r < absI (w - ws[j]) := by omega
    have p0 : (0 : Int) < ((j + 1 : Nat) : Int) := by omega
    simp only [goCond, wE_and, wE_cmp, wE_var, wE_lit, wE_blt, wE_cons, wE_op, wE_ix, wE_nil, List.getElem?_cons_succ, List.getElem?_cons_zero, co_gt, liftB_s, tr_bl, a1, drf_int, bo_sub, lift_f, tups_t, e, a3, bl_abs, m0, absI_e, decide_eq_true p0, decide_eq_false st']
theorem go_rest (E : EV) (r b l : Int) (hl0 : 0 ≤ l) (ws : List Int) (ls : List (Option Int)) (S : Sto) (i : Nat) (w : Int) (k : Option Int) (hw : ws[i]? = some w) (hk : ls[i]? = some k) (run0 : Int) :
    evS E goRest [some (mkWd r b l), some (intsT ws), some (looksT ls), some (.int run0), some (.int (i : Nat))] S =
      if l < (if k = none then run0 + 1 else 0) ∨ okPair b (w, k) = false then some (.rt (.bl false) S) else some (.nx [some (mkWd r b l), some (intsT ws), some (looksT ls), some (.int (if k = none then run0 + 1 else 0)), some (.int (i : Nat))] S) := by
  have m0 : ∀ S, _ := mkWd_at (a := r) (b := b) (c := l)
  have hil : i < ws.length := (List.getElem?_eq_some_iff.mp hw).1
  have hkl : i < ls.length := (List.getElem?_eq_some_iff.mp hk).1
  have a1 : ∀ S, ixT S (intsT ws) (.int (i : Nat)) = some (.int w) := fun S => by
    rw [ix_tup, atI_k _ _ (by simpa using hil), List.getElem?_map, hw]; rfl
  have a2 : ∀ S, ixT S (looksT ls) (.int (i : Nat)) = some (lookT k) := fun S => by
    rw [ix_tup, atI_k _ _ (by simpa using hkl), List.getElem?_map, hk]; rfl
  cases k with
  | none =>
    by_cases h : l < run0 + 1
    · simp [goRest, bindT, a2, lookT_n, cop, m0, h]
    · simp [goRest, bindT, a2, lookT_n, cop, m0, h, okPair]
  | some k =>
    have hl0' : ¬ l < 0 := by omega
    by_cases h : b < absI (k - w)
    · have h' : ¬ absI (k - w) ≤ b := by omega
      simp [goRest, bindT, a1, a2, lookT_s, cop, m0, hl0', absI_e, h, okPair, h']
    · have h' : absI (k - w) ≤ b := by omega
      simp [goRest, bindT, a1, a2, lookT_s, cop, m0, hl0', absI_e, h, okPair, h']
theorem go_turn (E : EV) (r b l : Int) (hl0 : 0 ≤ l) (ws : List Int) (ls : List (Option Int)) (S : Sto) (hs : stepsOk r ws) (i : Nat) (w : Int) (k : Option Int) (hw : ws[i]? = some w) (hk : ls[i]? = some k) (run0 : Int) (x : Option T) :
    frT E (.nm 4) goBody (.int (i : Nat)) [some (mkWd r b l), some (intsT ws), some (looksT ls), some (.int run0), x] S =
      if l < (if k = none then run0 + 1 else 0) ∨ okPair b (w, k) = false then some (.rt (.bl false) S) else some (.nx [some (mkWd r b l), some (intsT ws), some (looksT ls), some (.int (if k = none then run0 + 1 else 0)), some (.int (i : Nat))] S) := by
  have c := go_cond E r b l ws (some (looksT ls)) (some (.int run0)) S hs i w hw
  have e := go_rest E r b l hl0 ws ls S i w k hw hk run0
  rw [← e]
  simp only [frT, bindT, List.set_cons_succ, List.set_cons_zero, goBody]
  rw [wS_seq, wS_iff, c]
  simp only [tr_bl, wS_skip]
theorem law_go_ok (n : Nat) (r b l : Int) (hl0 : 0 ≤ l) (ws : List Int) (ls : List (Option Int)) (S : Sto) (hl : ws.length = ls.length) (h1 : ws.length ≤ 1000) (hs : stepsOk r ws) :
    runO prg (n + 1) i_law_go [mkWd r b l, intsT ws, looksT ls] S = some (.ok (.bl (goB b l ws ls)) S) := by
  rw [run_succ prg n i_law_go _ S fd_law_go rfl rfl, go_split]
  have hzl : (ws.zip ls).length = ls.length := by rw [List.length_zip]; omega
  have ix := rngT_idx (ws.zip ls)
  rw [hzl] at ix
  have zf : (ws.zip ls).map (·.2) = ls := by rw [List.map_snd_zip]; omega
  have key := forL_preR (g := frT (evO prg n) (.nm 4) goBody) (fun p : (Int × Option Int) × Nat => T.int (p.2 : Nat))
    (fun pre ρ S' => ∃ x, ρ = [some (mkWd r b l), some (intsT ws), some (looksT ls), some (.int ((pre.map (·.1.2)).foldl stL (0, 0)).2), x] ∧ S' = S ∧ ((pre.map (·.1.2)).foldl stL (0, 0)).1 ≤ l ∧ (pre.map (·.1)).all (okPair b) = true)
    (fun pre t S' => t = .bl false ∧ S' = S ∧ (l < ((pre.map (·.1.2)).foldl stL (0, 0)).1 ∨ (pre.map (·.1)).all (okPair b) = false)) (ws.zip ls).zipIdx (fun pre p post hp ρ S' hi => by
      obtain ⟨x, rfl, rfl, hr, ha⟩ := hi
      obtain ⟨⟨w, k⟩, i⟩ := p
      obtain ⟨hip, _, hget⟩ := zipIdx_pre hp
      have hw : ws[i]? = some w ∧ ls[i]? = some k := by
        rw [List.zip, List.getElem?_zipWith] at hget
        cases q1 : ws[i]? with
        | none => simp [q1] at hget
        | some w' =>
          cases q2 : ls[i]? with
          | none => simp [q1, q2] at hget
          | some k' => simpa [q1, q2] using hget
      have tn := go_turn (evO prg n) r b l hl0 ws ls S' hs i w k hw.1 hw.2 ((pre.map (·.1.2)).foldl stL (0, 0)).2 x
      have s2 := stL_two ((pre.map (·.1.2)).foldl stL (0, 0)) k
      have ef : ((pre ++ [((w, k), i)]).map (·.1.2)).foldl stL (0, 0) = stL ((pre.map (·.1.2)).foldl stL (0, 0)) k := by rw [List.map_append, List.foldl_append]; rfl
      have ea : ((pre ++ [((w, k), i)]).map (·.1)).all (okPair b) = okPair b (w, k) := by
        rw [List.map_append, List.all_append, ha]; simp
      rw [ef, ea]
      rw [← s2.1] at tn
      split at tn
      · rename_i h
        refine .inr ⟨.bl false, S', tn, rfl, rfl, ?_⟩
        rcases h with h | h
        · refine .inl ?_
          rw [s2.2]; split <;> omega
        · exact .inr h
      · rename_i h
        simp only [not_or, Bool.not_eq_false] at h
        refine .inl ⟨_, S', .inl tn, _, rfl, rfl, ?_, h.2⟩
        rw [s2.2]; split <;> omega) (ρ := [some (mkWd r b l), some (intsT ws), some (looksT ls), some (.int 0), none]) (S := S) ⟨none, rfl, rfl, by simpa using hl0, rfl⟩
  rw [← ix] at key
  have hok : okR (ls.length : Int) = true := by simp [okR]; omega
  have mm : ∀ l' : List ((Int × Option Int) × Nat), l'.map (fun x => x.1.2) = (l'.map (·.1)).map (·.2) := fun l' => by rw [List.map_map]; rfl
  have hi : init fd_law_go [mkWd r b l, intsT ws, looksT ls] = [some (mkWd r b l), some (intsT ws), some (looksT ls), none, none] := rfl
  rw [hi]
  have lene := rg1_eq (k := ls.length) (len_eq (E := evO prg n) (i := 1) (ρ := [some (mkWd r b l), some (intsT ws), some (looksT ls), some (.int 0), none]) (S := S) (l := ws.map T.int) rfl |>.trans (by rw [List.length_map, hl])) (by omega)
  rcases key with ⟨ρ', S', e, x, rfl, rfl, hr, ha⟩ | ⟨pre, post, t, S', hp, e, rfl, rfl, hbad⟩
  · rw [mm, List.zipIdx_map_fst, zf] at hr
    rw [List.zipIdx_map_fst] at ha
    have : goB b l ws ls = true := by
      simp only [goB, Bool.and_eq_true, decide_eq_true_eq]
      exact ⟨hr, ha⟩
    rw [show fd_law_go.keep = false from rfl, seq_nx (asg_eq (t := .int 0) rfl)]
    simp only [List.set_cons_succ, List.set_cons_zero]
    rw [seq_nx (for_eq (l := rngT 0 ls.length) (S1 := S') lene e), seq_rt (ret_eq (t := .bl true) (S1 := S') (by simp [hl]))]
    rw [fin_rt, fin1_eq, this]
  · have : goB b l ws ls = false := by
      have hz : ws.zip ls = pre.map (·.1) ++ post.map (·.1) := by
        have := congrArg (List.map (·.1)) hp
        rw [List.zipIdx_map_fst, List.map_append] at this
        exact this
      rcases hbad with h | h
      · have h2 := stL_mono (post.map (·.1.2)) ((pre.map (·.1.2)).foldl stL (0, 0))
        have : lostR ls = ((post.map (·.1.2)).foldl stL ((pre.map (·.1.2)).foldl stL (0, 0))).1 := by
          rw [lostR, ← zf, hz, List.map_append, List.foldl_append, mm, mm]
        have h3 : ¬ lostR ls ≤ l := by omega
        simp [goB, h3]
      · have : (ws.zip ls).all (okPair b) = false := by rw [hz, List.all_append, h]; rfl
        simp [goB, this]
    rw [show fd_law_go.keep = false from rfl, seq_nx (asg_eq (t := .int 0) rfl)]
    simp only [List.set_cons_succ, List.set_cons_zero]
    rw [seq_rt (for_eq (l := rngT 0 ls.length) (S1 := S') lene e)]
    rw [fin_rt, fin1_eq, this]
end Fw

namespace Fw
open PySem L2 PyProof.Rows
/-! sets of places -/
def minL : List Int → Int
  | [] => 0
  | a :: r => minI a r
def maxL : List Int → Int
  | [] => 0
  | a :: r => maxI a r
theorem minL_spec {l : List Int} (h : l ≠ []) : minL l ∈ l ∧ ∀ z ∈ l, minL l ≤ z := by
  cases l with
  | nil => exact absurd rfl h
  | cons a r => exact minI_spec r a
theorem maxL_spec {l : List Int} (h : l ≠ []) : maxL l ∈ l ∧ ∀ z ∈ l, z ≤ maxL l := by
  cases l with
  | nil => exact absurd rfl h
  | cons a r => exact maxI_spec r a
theorem intsOf_map : ∀ l : List Int, intsOf (l.map T.int) = some l
  | [] => rfl
  | a :: l => by simp [intsOf, intsOf_map l]
theorem bl_minL (S : Sto) {l : List Int} (h : l ≠ []) : bltT S .min [.lst (l.map T.int)] = some (.int (minL l)) := by
  cases l with
  | nil => exact absurd rfl h
  | cons a r =>
    have := intsOf_map (a :: r)
    simp only [bltT, drf_lst, this, minL]
theorem bl_maxL (S : Sto) {l : List Int} (h : l ≠ []) : bltT S .max [.lst (l.map T.int)] = some (.int (maxL l)) := by
  cases l with
  | nil => exact absurd rfl h
  | cons a r =>
    have := intsOf_map (a :: r)
    simp only [bltT, drf_lst, this, maxL]
theorem min99 (r : Int) (hr : r < 99) (s : Int) (here : List Int) : decide (minL ((here.map fun o => absI (o - s)) ++ [99]) ≤ r) = here.any fun o => decide (absI (o - s) ≤ r) := by
  have h := minL_spec (l := (here.map fun o => absI (o - s)) ++ [99]) (by simp)
  rw [Bool.eq_iff_iff, decide_eq_true_eq, List.any_eq_true]
  constructor
  · intro q
    rcases List.mem_append.mp h.1 with m | m
    · obtain ⟨o, ho, e⟩ := List.mem_map.mp m
      exact ⟨o, ho, by rw [decide_eq_true_eq, e]; exact q⟩
    · rw [List.mem_singleton] at m; omega
  · rintro ⟨o, ho, q⟩
    rw [decide_eq_true_eq] at q
    have := h.2 (absI (o - s)) (List.mem_append_left _ (List.mem_map.mpr ⟨o, ho, rfl⟩))
    omega
theorem rngT_wide (lo hi : Int) : rngT lo (hi + 1 - lo).toNat = (wideI lo hi).map T.int := by
  rw [rngT, wideI, List.map_map]; rfl
theorem wideI_len (lo hi : Int) : (wideI lo hi).length = (hi + 1 - lo).toNat := by simp [wideI]
def stK (b : Int) (k : Option Int) (here : List Int) : List Int := match k with
  | none => here
  | some k => here.filter fun s => decide (absI (s - k) ≤ b)
def spSt (r b lo hi : Int) (q : List (List Int) × List Int) (k : Option Int) : List (List Int) × List Int := (q.1 ++ [stW r b lo hi q.1.isEmpty q.2 k], stW r b lo hi q.1.isEmpty q.2 k)
theorem sp_fold (r b lo hi : Int) : ∀ (ks : List (Option Int)) (acc : List (List Int)) (here : List Int), (ks.foldl (spSt r b lo hi) (acc, here)).1 = acc ++ spI r b lo hi acc.isEmpty here ks
  | [], acc, here => by simp [spI]
  | k :: ks, acc, here => by
    have ih := sp_fold r b lo hi ks (acc ++ [stW r b lo hi acc.isEmpty here k]) (stW r b lo hi acc.isEmpty here k)
    have e : (acc ++ [stW r b lo hi acc.isEmpty here k]).isEmpty = false := by simp
    rw [e] at ih
    simp only [List.foldl_cons, spI]
    show ((ks.foldl (spSt r b lo hi) (acc ++ [stW r b lo hi acc.isEmpty here k], stW r b lo hi acc.isEmpty here k)).1) = _
    rw [ih]
    simp
theorem stW_len {r b lo hi : Int} {f : Bool} {here : List Int} {k : Option Int} (h : here.length ≤ (wideI lo hi).length) : (stW r b lo hi f here k).length ≤ (wideI lo hi).length := by
  have h1 : (if f = true then here else (wideI lo hi).filter fun s => here.any fun o => decide (absI (o - s) ≤ r)).length ≤ (wideI lo hi).length := by
    split
    · exact h
    · exact List.length_filter_le _ _
  unfold stW
  cases k with
  | none => exact h1
  | some k => exact Nat.le_trans (List.length_filter_le _ _) h1
theorem sp_fold_len (r b lo hi : Int) : ∀ (ks : List (Option Int)) (acc : List (List Int)) (here : List Int), here.length ≤ (wideI lo hi).length → (ks.foldl (spSt r b lo hi) (acc, here)).2.length ≤ (wideI lo hi).length ∧ (ks.foldl (spSt r b lo hi) (acc, here)).1.length = acc.length + ks.length
  | [], acc, here, h => ⟨h, by simp⟩
  | k :: ks, acc, here, h => by
    have ih := sp_fold_len r b lo hi ks (acc ++ [stW r b lo hi acc.isEmpty here k]) (stW r b lo hi acc.isEmpty here k) (stW_len h)
    simp only [List.foldl_cons, spSt] at ih ⊢
    refine ⟨ih.1, ?_⟩
    rw [ih.2]; simp; omega
theorem intsL_no : ∀ L : List (List Int), noBxL 0 (L.map intsL) = true
  | [] => rfl
  | a :: l => by simp [noBxL, noBx, intsL, ints_no, intsL_no l]
theorem law_spots_ok (n : Nat) (r b l : Int) (hr : r < 99) (ls : List (Option Int)) (lo hi : Int) (S : Sto) (hc : Cl S) (h1 : ls.length ≤ 1000) (hlo : -1000000 ≤ lo) (hlh : lo ≤ hi) (hhi : hi ≤ 1000000) :
    runO prg (n + 1) i_law_spots [mkWd r b l, looksT ls, .int lo, .int hi] S = some (.ok (.lst ((setsI r b lo hi ls).map intsL)) S) := by
  rw [run_succ prg n i_law_spots _ S fd_law_spots rfl rfl]
  have hwl : (wideI lo hi).length ≤ 2000001 := by rw [wideI_len]; omega
  have m0 : ∀ S, _ := mkWd_at (a := r) (b := b) (c := l)
  have ok1 : okR lo = true := by simp [okR]; omega
  have ok2 : okR (hi + 1) = true := by simp [okR]; omega
  have hz : (hi + 1 - lo).toNat ≤ 16777216 := by omega
  obtain ⟨ρ', S', e, x, wd, rfl, rfl⟩ := forL_pre (g := frT (evO prg n) (.nm 4) (.seq (.iff (.cmp .NotEq (.var 5) (.lst false .nil)) (.seq (.asg (.nm 7) (.lrg false (.var 2) (.op false .Add (.var 3) (.lit (.int 1))))) (.seq (.asg (.nm 6) (.lc false [8] (.var 8) (.nm 8) (.sq (.var 7)) (.cmp .LtE (.blt false .min (.cons (.op false .Add (.lc false [9] (.blt false .abs (.cons (.op false .Sub (.var 9) (.var 8)) .nil)) (.nm 9) (.sq (.var 6)) (.lit (.bl true))) (.lst false (.cons (.lit (.int 99)) .nil))) .nil)) (.ix (.var 0) (.lit (.int 0)))))) .skip)) .skip) (.seq (.iff (.cmp .IsNot (.var 4) (.lit .non)) (.seq (.asg (.nm 6) (.lc false [8] (.var 8) (.nm 8) (.sq (.var 6)) (.cmp .LtE (.blt false .abs (.cons (.op false .Sub (.var 8) (.var 4)) .nil)) (.ix (.var 0) (.lit (.int 1)))))) .skip) .skip) (.seq (.app (.var 5) (.var 6)) .skip)))) lookT
    (fun pre ρ S' => ∃ x wd, ρ = [some (mkWd r b l), some (looksT ls), some (.int lo), some (.int hi), x, some (.box S.length), some (intsL (pre.foldl (spSt r b lo hi) ([], wideI lo hi)).2), wd, none, none] ∧ S' = S ++ [.lst ((pre.foldl (spSt r b lo hi) ([], wideI lo hi)).1.map intsL)]) ls (fun pre k post hp ρ S' hi' => by
      obtain ⟨x, wd, rfl, rfl⟩ := hi'
      have hb : pre.length < 1000 := by
        have := congrArg List.length hp
        simp at this; omega
      have hlen := sp_fold_len r b lo hi pre [] (wideI lo hi) (Nat.le_refl _)
      have ef : (pre ++ [k]).foldl (spSt r b lo hi) ([], wideI lo hi) = spSt r b lo hi (pre.foldl (spSt r b lo hi) ([], wideI lo hi)) k := by rw [List.foldl_append]; rfl
      rw [ef]
      generalize pre.foldl (spSt r b lo hi) ([], wideI lo hi) = q at *
      obtain ⟨q1, q2⟩ := q
      simp only [List.length_nil, Nat.zero_add] at hlen
      obtain ⟨hq2, hq1⟩ := hlen
      have hfd : ∀ v : T, (S ++ [Ob.lst (q1.map intsL)])[S.length]? = some (.lst (q1.map intsL)) := fun _ => by simp
      have cN : cop (S ++ [.lst (q1.map intsL)]) .NotEq (.box S.length) (.lst []) = some (!q1.isEmpty) := by
        have := co_nilN (S := S ++ [.lst (q1.map intsL)]) (l := q1.map intsL) (by rw [toDs_intsL]; rfl)
        simp only [cop, drf_lst] at this
        simp only [cop, drf_lst, drf_box (hfd .non), this]
        simp
      -- the places that can be reached
      have inner := fun (v4 v7 : Option T) (s : Int) (S : Sto) => lcL_encM (g := lcT (evO prg n) (.blt false .abs (.cons (.op false .Sub (.var 9) (.var 8)) .nil)) (.nm 9) (.lit (.bl true)) [some (mkWd r b l), some (looksT ls), some (.int lo), some (.int hi), v4, some (.box S.length), some (intsL q2), v7, some (.int s), none]) T.int (fun o => T.int (absI (o - s))) (S := S ++ [.lst (q1.map intsL)]) q2 (fun o _ => by
        simp [lcT, bindT, absI_e]) (by simp only [line]; omega)
      have outer := fun (v4 v7 : Option T) (S : Sto) => lcL_encF (g := lcT (evO prg n) (.var 8) (.nm 8) (.cmp .LtE (.blt false .min (.cons (.op false .Add (.lc false [9] (.blt false .abs (.cons (.op false .Sub (.var 9) (.var 8)) .nil)) (.nm 9) (.sq (.var 6)) (.lit (.bl true))) (.lst false (.cons (.lit (.int 99)) .nil))) .nil)) (.ix (.var 0) (.lit (.int 0)))) [some (mkWd r b l), some (looksT ls), some (.int lo), some (.int hi), v4, some (.box S.length), some (intsL q2), v7, none, none]) T.int (fun s => q2.any fun o => decide (absI (o - s) ≤ r)) (S := S ++ [.lst (q1.map intsL)]) (wideI lo hi) (fun s _ => by
        have i1 := inner v4 v7 s S
        have hmap : (q2.map fun o => T.int (absI (o - s))) ++ [T.int 99] = ((q2.map fun o => absI (o - s)) ++ [99]).map T.int := by
          rw [List.map_append, List.map_map]; rfl
        have hadd : bop .Add (.lst (q2.map fun o => T.int (absI (o - s)))) (.lst [.int 99]) = some (.lst (((q2.map fun o => absI (o - s)) ++ [99]).map T.int)) := by
          rw [bq_addL, if_pos (by simp; omega), hmap]
        have hmin : ∀ S, bltT S .min [.lst (((q2.map fun o => absI (o - s)) ++ [99]).map T.int)] = some (.int (minL ((q2.map fun o => absI (o - s)) ++ [99]))) := fun S => bl_minL S (by simp)
        have h99 := min99 r hr s q2
        have sq : seqT (intsL q2) = some (q2.map T.int) := rfl
        generalize (((q2.map fun o => absI (o - s)) ++ [99]).map T.int) = LL at hadd hmin
        generalize minL ((q2.map fun o => absI (o - s)) ++ [99]) = mm at *
        generalize (q2.any fun o => decide (absI (o - s) ≤ r)) = bb at h99
        cases bb <;> simp [lcT, bindT, wipeR, sq, i1, hadd, line, hmin, m0, h99]) (by simp only [line]; omega)
      have sqh : ∀ l, seqT (intsL l) = some (l.map T.int) := fun _ => rfl
      have second := fun (v7 : Option T) (k : Int) (here : List Int) (hh : here.length ≤ 2000001) (S : Sto) => lcL_encF (g := lcT (evO prg n) (.var 8) (.nm 8) (.cmp .LtE (.blt false .abs (.cons (.op false .Sub (.var 8) (.var 4)) .nil)) (.ix (.var 0) (.lit (.int 1)))) [some (mkWd r b l), some (looksT ls), some (.int lo), some (.int hi), some (.int k), some (.box S.length), some (intsL here), v7, none, none]) T.int (fun s => decide (absI (s - k) ≤ b)) (S := S ++ [.lst (q1.map intsL)]) here (fun s _ => by
        by_cases q : absI (s - k) ≤ b <;> simp [lcT, bindT, absI_e, m0, q]) (by simp only [line]; omega)
      have fin : ∀ (v4 v7 : Option T) (here : List Int), evS (evO prg n) (.seq (.app (.var 5) (.var 6)) .skip) [some (mkWd r b l), some (looksT ls), some (.int lo), some (.int hi), v4, some (.box S.length), some (intsL here), v7, none, none] (S ++ [.lst (q1.map intsL)]) = some (.nx [some (mkWd r b l), some (looksT ls), some (.int lo), some (.int hi), v4, some (.box S.length), some (intsL here), v7, none, none] (S ++ [.lst ((q1 ++ [here]).map intsL)])) := by
        intro v4 v7 here
        have : (q1.map intsL).length < 16777216 := by rw [List.length_map]; omega
        simp at this
        simp [isLst, wApp, line, this]
      have fst : (spSt r b lo hi (q1, q2) k) = (q1 ++ [stW r b lo hi q1.isEmpty q2 k], stW r b lo hi q1.isEmpty q2 k) := rfl
      rw [fst]
      have st1 : ∀ (here : List Int) (v7 : Option T), here.length ≤ 2000001 → ∃ v4, evS (evO prg n) (.seq (.iff (.cmp .IsNot (.var 4) (.lit .non)) (.seq (.asg (.nm 6) (.lc false [8] (.var 8) (.nm 8) (.sq (.var 6)) (.cmp .LtE (.blt false .abs (.cons (.op false .Sub (.var 8) (.var 4)) .nil)) (.ix (.var 0) (.lit (.int 1)))))) .skip) .skip) (.seq (.app (.var 5) (.var 6)) .skip)) [some (mkWd r b l), some (looksT ls), some (.int lo), some (.int hi), some (lookT k), some (.box S.length), some (intsL here), v7, none, none] (S ++ [.lst (q1.map intsL)]) =
          some (.nx [some (mkWd r b l), some (looksT ls), some (.int lo), some (.int hi), v4, some (.box S.length), some (intsL (stK b k here)), v7, none, none] (S ++ [.lst ((q1 ++ [stK b k here]).map intsL)])) := by
        intro here v7 hh
        rw [wS_seq]
        cases k with
        | none => exact ⟨some .non, by
            have := fin (some .non) v7 here
            simp only [wS_iff, wE_cmp, wE_var, wE_lit, List.getElem?_cons_succ, List.getElem?_cons_zero, lookT_n, cop, liftB_s, tr_bl, wS_skip]
            exact this⟩
        | some k => exact ⟨some (.int k), by
            have := fin (some (.int k)) v7 (here.filter fun s => decide (absI (s - k) ≤ b))
            have s1 := second v7 k here hh S
            rw [wS_iff]
            simp only [wE_cmp, wE_var, wE_lit, List.getElem?_cons_succ, List.getElem?_cons_zero, lookT_s, cop, liftB_s, tr_bl, wS_seq, wS_asg, wE_lc, wE_sq, sqh, tups_t, wipeR, List.set_cons_succ, List.set_cons_zero, s1, newL_f, bindT, wS_skip]
            exact this⟩
      by_cases h0 : q1.isEmpty = true
      · obtain ⟨v4, e⟩ := st1 q2 wd (by omega)
        refine ⟨_, _, .inl ?_, v4, wd, rfl, rfl⟩
        have es : stW r b lo hi q1.isEmpty q2 k = stK b k q2 := by
          rw [h0]; rfl
        rw [es, ← e]
        rw [h0] at cN
        simp only [frT, bindT, List.set_cons_succ, List.set_cons_zero]
        rw [wS_seq, wS_iff]
        simp only [wE_cmp, wE_var, wE_lst, wE_nil, tups_t, List.length_nil, Nat.zero_le, if_true, newL_f, List.getElem?_cons_succ, List.getElem?_cons_zero, cN, liftB_s, tr_bl, Bool.not_true, wS_skip]
      · have h0 : q1.isEmpty = false := by simpa using h0
        obtain ⟨v4, e⟩ := st1 ((wideI lo hi).filter fun s => q2.any fun o => decide (absI (o - s) ≤ r)) (some (intsL (wideI lo hi))) (Nat.le_trans (List.length_filter_le _ _) hwl)
        refine ⟨_, _, .inl ?_, v4, some (intsL (wideI lo hi)), rfl, rfl⟩
        have es : stW r b lo hi q1.isEmpty q2 k = stK b k ((wideI lo hi).filter fun s => q2.any fun o => decide (absI (o - s) ≤ r)) := by
          rw [h0]; rfl
        rw [es, ← e]
        rw [h0] at cN
        have o1 := outer (some (lookT k)) (some (intsL (wideI lo hi))) S
        have hrg : rngT lo (hi + 1 - lo).toNat = (wideI lo hi).map T.int := rngT_wide lo hi
        simp only [frT, bindT, List.set_cons_succ, List.set_cons_zero]
        rw [wS_seq, wS_iff]
        have hil : ∀ l : List Int, T.lst (l.map T.int) = intsL l := fun _ => rfl
        simp only [wE_cmp, wE_var, wE_lst, wE_nil, tups_t, List.length_nil, Nat.zero_le, if_true, newL_f, List.getElem?_cons_succ, List.getElem?_cons_zero, cN, liftB_s, tr_bl, Bool.not_false, wS_seq, wS_asg, wE_lrg, wE_op, wE_lit, drf_int, bo_add, lift_f, ok1, ok2, hz, line, Bool.true_and, decide_true, bindT, List.set_cons_succ, List.set_cons_zero, hrg, hil, wE_lc, wE_sq, sqh, wipeR, o1, wS_skip]) (ρ := [some (mkWd r b l), some (looksT ls), some (.int lo), some (.int hi), none, some (.box S.length), some (intsL (wideI lo hi)), none, none, none]) (S := S ++ [.lst []]) ⟨none, none, rfl, rfl⟩
  have e2 := sp_fold r b lo hi ls [] (wideI lo hi)
  simp only [List.nil_append, List.isEmpty_nil] at e2
  have hrg : rngT lo (hi + 1 - lo).toNat = (wideI lo hi).map T.int := rngT_wide lo hi
  have hil : (T.lst ((wideI lo hi).map T.int)) = intsL (wideI lo hi) := rfl
  simp [fd_law_spots, init, bindT, line, ok1, ok2, hz, hrg, hil, e]
  have ft := fin1_thaw (S := S) (X := [.lst ((ls.foldl (spSt r b lo hi) ([], wideI lo hi)).1.map intsL)]) (b := S.length) (n := S.length) (l := (ls.foldl (spSt r b lo hi) ([], wideI lo hi)).1.map intsL) rfl (Nat.le_refl _) (by simp) (intsL_no _) hc
  rw [ft, e2]; rfl
end Fw

namespace Fw
open PySem L2 PyProof.Rows
/-! ## the law's due places -/
theorem co_inInt (S : Sto) (s : Int) (l : List Int) : cop S .In (.int s) (intsL l) = some (l.any fun z => z == s) := by
  have e : toDs (l.map T.int) = some (l.map PyData.int) := toDs_ints l
  simp only [intsL, cop, drf_lst, drf_int, inT, toD, e, PyData.depth]
  simp only [List.any_map]
  simp only [Nat.zero_le, decide_true, if_true]
  congr 1
theorem co_inNil (S : Sto) (L : List (List Int)) : cop S .In (.lst []) (.lst (L.map intsL)) = some (L.any fun l => l.isEmpty) := by
  have e := toDs_intsL L
  simp only [cop, drf_lst, inT, toD, toDs, e]
  have : ((PyData.list []).depth ≤ 60) := by simp [PyData.depth, PyData.depthAll]
  rw [decide_eq_true this]
  simp only [if_true, List.any_map]
  congr 1
  clear e
  induction L with
  | nil => rfl
  | cons a L ih =>
    simp only [List.any_cons, ih]
    congr 1
    cases a <;> rfl
theorem any_nil (L : List (List Int)) : (L.any fun l => l.isEmpty) = decide ([] ∈ L) := by
  rw [Bool.eq_iff_iff, List.any_eq_true, decide_eq_true_eq]
  constructor
  · rintro ⟨x, hx, h⟩
    rw [List.isEmpty_iff.mp h] at hx; exact hx
  · intro h; exact ⟨[], h, rfl⟩
theorem itv_min {u v x y : Int} (hx : u ≤ x ∧ x ≤ v) (hy : u ≤ y ∧ y ≤ v) (h : x ≤ y) : minL (itv u v (some x, some y)) = x ∧ maxL (itv u v (some x, some y)) = y ∧ itv u v (some x, some y) ≠ [] := by
  have m1 : x ∈ itv u v (some x, some y) := itv_mem.mpr ⟨hx, by simp [inB, geB, leB, h]⟩
  have m2 : y ∈ itv u v (some x, some y) := itv_mem.mpr ⟨hy, by simp [inB, geB, leB, h]⟩
  have hn := List.ne_nil_of_mem m1
  obtain ⟨a1, a2⟩ := minL_spec hn
  obtain ⟨b1, b2⟩ := maxL_spec hn
  have c1 := (itv_mem.mp a1).2
  have c2 := (itv_mem.mp b1).2
  simp only [inB, geB, leB, Bool.and_eq_true, decide_eq_true_eq] at c1 c2
  have := a2 x m1
  have := b2 y m2
  exact ⟨by omega, by omega, hn⟩
def toldI (ls : List (Option Int)) : List Int := ls.filterMap id
theorem toldI_mem {ls : List (Option Int)} {k : Int} : k ∈ toldI ls ↔ some k ∈ ls := by
  simp [toldI, List.mem_filterMap]
theorem bothI_zip (A B : List (List Int)) : bothI A B = (A.zip B).map fun p => p.1.filter fun s => p.2.any fun z => z == s := by
  rw [bothI, List.zip, List.map_zipWith]
theorem bothI_zip' (A B : List (List Int)) : (bothI A B).map intsL = (A.zip B).map fun p => intsL (p.1.filter fun s => p.2.any fun z => z == s) := by
  rw [bothI_zip, List.map_map]; rfl
theorem law_due_ok (n : Nat) (r b l : Int) (hw : WdOk r b l) (ls : List (Option Int)) (hl : ls.length ≤ 100) (hk : ∀ k, some k ∈ ls → -1000 ≤ k ∧ k ≤ 1000) (i : Nat) (hi : i < ls.length) (S : Sto) (hc : Cl S) :
    runO prg (n + 2) i_law_due [mkWd r b l, looksT ls, .int i] S = some (.ok (plT r b l ls i) S) := by
  rw [run_succ prg (n + 1) i_law_due _ S fd_law_due rfl rfl]
  obtain ⟨w1, w2, w3, w4, w5, w6⟩ := hw
  have m0 : ∀ S, _ := mkWd_at (a := r) (b := b) (c := l)
  have lC : (combL (bdsI r b ls) (bwdB r b ls)).length = ls.length := by simp [combL, bwdB, bdsI, rngI_len]
  have e1 := lcL_enc (g := lcT (evO prg (n + 1)) (.var 4) (.nm 4) (.cmp .IsNot (.var 4) (.lit .non)) [some (mkWd r b l), some (looksT ls), some (.int i), none, none, none, none, none, none, none, none, none, none, none, none, none]) lookT (f := fun k => k.map T.int) (S := S) ls (fun k _ => by
    cases k <;> simp [lcT, bindT, lookT, cop]) (by simp only [line]; omega)
  have e1' : (ls.filterMap fun k => k.map T.int) = (toldI ls).map T.int := by
    rw [toldI, List.map_filterMap]; rfl
  rw [e1'] at e1
  obtain ⟨ρ', S', e2, x, rfl, hS⟩ := forL_pre (g := frT (evO prg (n + 1)) (.nm 4) (.seq (.asg (.nm 9) (.ite (.cmp .Is (.var 4) (.lit .non)) (.op false .Add (.var 9) (.lit (.int 1))) (.lit (.int 0)))) (.seq (.asg (.nm 10) (.blt false .max (.cons (.var 10) (.cons (.var 9) .nil)))) .skip))) lookT
    (fun pre ρ S' => ∃ lk, ρ = [some (mkWd r b l), some (looksT ls), some (.int i), some (.lst ((toldI ls).map T.int)), lk, none, none, none, none, some (.int (pre.foldl stL (0, 0)).2), some (.int (pre.foldl stL (0, 0)).1), none, none, none, none, none] ∧ S' = S) ls (fun pre k post _ ρ S' hi => by
      obtain ⟨lk, rfl, rfl⟩ := hi
      refine ⟨_, _, .inl ?_, some (lookT k), rfl, rfl⟩
      rw [List.foldl_append]
      generalize pre.foldl stL (0, 0) = q
      cases k <;> simp [frT, bindT, cop, lookT, stL]) (ρ := [some (mkWd r b l), some (looksT ls), some (.int i), some (.lst ((toldI ls).map T.int)), none, none, none, none, none, some (.int 0), some (.int 0), none, none, none, none, none]) (S := S) ⟨none, rfl, rfl⟩
  rw [hS] at e2
  have hlr : (ls.foldl stL (0, 0)).1 = lostR ls := rfl
  unfold plT
  by_cases h1 : l < lostR ls
  · rw [if_pos (.inr h1)]
    simp [fd_law_due, init, wipeR, e1, bindT, line, e2, hlr, m0, h1]
  have cN := fun S => co_nil (S := S) (l := (toldI ls).map T.int) (by rw [toDs_ints]; rfl)
  by_cases h2 : toldI ls = []
  · have hno : ∀ k, some k ∉ ls := fun k hk' => by
      have := toldI_mem.mpr hk'
      rw [h2] at this; simp at this
    have hA := none_told (r := r) (b := b) ls hno
    have hB : ∀ q ∈ bwdB r b ls, q = (none, none) := fun q hq => none_told ls.reverse (fun k hk' => hno k (by simpa using hk')) q (by simpa [bwdB] using hq)
    have hC : ∀ q ∈ combL (bdsI r b ls) (bwdB r b ls), q = (none, none) := fun q hq => by
      obtain ⟨x, hx, y, hy, rfl⟩ := zip_in hq
      rw [hA x hx, hB y hy]; rfl
    have nb : ¬ (combL (bdsI r b ls) (bwdB r b ls)).any badB = true := by
      intro h
      obtain ⟨q, hq, hb⟩ := List.any_eq_true.mp h
      rw [hC q hq] at hb; cases hb
    rw [if_neg (by rintro (h | h) <;> contradiction)]
    have hCi : i < (combL (bdsI r b ls) (bwdB r b ls)).length := by omega
    rw [List.getElem?_eq_getElem hCi]
    simp only [hC _ (List.getElem_mem hCi)]
    have : ((toldI ls).map T.int).isEmpty = true := by rw [h2]; rfl
    simp [fd_law_due, init, wipeR, e1, bindT, line, e2, hlr, m0, h1, cN, this]
    rfl
  · have hne : ((toldI ls).map T.int).isEmpty = false := by
      cases q : toldI ls with
      | nil => exact absurd q h2
      | cons a r => rfl
    obtain ⟨mn1, mn2⟩ := minL_spec h2
    obtain ⟨mx1, mx2⟩ := maxL_spec h2
    obtain ⟨mn, hmn⟩ : ∃ mn, mn = minL (toldI ls) := ⟨_, rfl⟩
    obtain ⟨mx, hmx⟩ : ∃ mx, mx = maxL (toldI ls) := ⟨_, rfl⟩
    have q1 := hk mn (toldI_mem.mp (by rw [hmn]; exact mn1))
    have q2 := hk mx (toldI_mem.mp (by rw [hmx]; exact mx1))
    have hmm : mn ≤ mx := by rw [hmn]; exact mn2 mx (by rw [hmx]; exact mx1)
    have hkk : ∀ k, some k ∈ ls → mn ≤ k ∧ k ≤ mx := fun k hk' => ⟨by rw [hmn]; exact mn2 k (toldI_mem.mpr hk'), by rw [hmx]; exact mx2 k (toldI_mem.mpr hk')⟩
    have hrl0 : 0 ≤ r * (ls.length : Int) := Int.mul_nonneg w1 (by omega)
    have hrl1 : r * (ls.length : Int) ≤ 3 * 100 := Int.mul_le_mul w2 (by omega) (by omega) (by omega)
    obtain ⟨wd, hwd⟩ : ∃ wd, wd = r * (ls.length : Int) + b := ⟨_, rfl⟩
    obtain ⟨u, hu⟩ : ∃ u, u = mn - wd := ⟨_, rfl⟩
    obtain ⟨v, hv⟩ : ∃ v, v = mx + wd := ⟨_, rfl⟩
    have pe := places_eq w1 w3 hmm ls hkk u v (by rw [hu, hwd]) (by rw [hv, hwd])
    have sm : small64 r = true := by simp [small64]; omega
    have b1 : bop .Mult (.int r) (.int (ls.length : Int)) = some (.int (r * ls.length)) := bo_mulL sm
    have s1 := fun S (hc : Cl S) => law_spots_ok n r b l (by omega) ls u v S hc (by omega) (by omega) (by omega) (by omega)
    have s2 : runO prg (n + 1) i_law_spots [mkWd r b l, .tup ((ls.map lookT).reverse), .int u, .int v] S = some (.ok (.lst ((setsI r b u v ls.reverse).map intsL)) S) := by
      have := law_spots_ok n r b l (by omega) ls.reverse u v S hc (by simpa using (by omega : ls.length ≤ 1000)) (by omega) (by omega) (by omega)
      rw [← List.map_reverse]; exact this
    have lS : (setsI r b u v ls).length = ls.length := by simp [setsI, spI_len]
    have lR : (bwdS r b u v ls).length = ls.length := by simp [bwdS, setsI, spI_len]
    have z1 : zipT ((setsI r b u v ls).map intsL) (((setsI r b u v ls.reverse).map intsL).reverse) = ((setsI r b u v ls).zip (bwdS r b u v ls)).map fun p => .tup [intsL p.1, intsL p.2] := by
      rw [← List.map_reverse]; exact zipT_map _ _ _ _
    have lenI : ∀ q ∈ setsI r b u v ls, q.length ≤ 16777216 := fun q hq => by
      have hw : (wideI u v).length ≤ 16777216 := by rw [wideI_len]; omega
      -- each set is one of the window
      have key : ∀ (ks : List (Option Int)) (f : Bool) (here : List Int), here.length ≤ (wideI u v).length → ∀ q ∈ spI r b u v f here ks, q.length ≤ (wideI u v).length := by
        intro ks
        induction ks with
        | nil => intro f here _ q hq; simp [spI] at hq
        | cons k ks ih =>
          intro f here hh q hq
          simp only [spI, List.mem_cons] at hq
          rcases hq with rfl | hq
          · exact stW_len hh
          · exact ih _ _ (stW_len hh) q hq
      exact Nat.le_trans (key ls true (wideI u v) (Nat.le_refl _) q hq) hw
    have e3 := lcL_encM (g := lcT (evO prg (n + 1)) (.lc false [13] (.var 13) (.nm 13) (.sq (.var 14)) (.cmp .In (.var 13) (.var 15))) (.tp (.cn (.nm 14) (.cn (.nm 15) .nl))) (.lit (.bl true)) [some (mkWd r b l), some (looksT ls), some (.int i), some (.lst ((toldI ls).map T.int)), x, some (.int wd), some (.lst ((setsI r b u v ls).map intsL)), some (.lst (((setsI r b u v ls.reverse).map intsL).reverse)), none, some (.int (ls.foldl stL (0, 0)).2), some (.int (lostR ls)), some (.int u), some (.int v), none, none, none]) (fun p : List Int × List Int => T.tup [intsL p.1, intsL p.2]) (fun p => intsL (p.1.filter fun s => p.2.any fun z => z == s)) (S := S) ((setsI r b u v ls).zip (bwdS r b u v ls)) (fun p hp => by
      have hlen := lenI p.1 (List.of_mem_zip hp).1
      have inn := fun (ρ : Rho) (hρ : ρ = [some (mkWd r b l), some (looksT ls), some (.int i), some (.lst ((toldI ls).map T.int)), x, some (.int wd), some (.lst ((setsI r b u v ls).map intsL)), some (.lst (((setsI r b u v ls.reverse).map intsL).reverse)), none, some (.int (ls.foldl stL (0, 0)).2), some (.int (lostR ls)), some (.int u), some (.int v), none, some (intsL p.1), some (intsL p.2)]) => lcL_encF (g := lcT (evO prg (n + 1)) (.var 13) (.nm 13) (.cmp .In (.var 13) (.var 15)) ρ) T.int (fun s => p.2.any fun z => z == s) (S := S) p.1 (fun s _ => by
        subst hρ
        have c := co_inInt S s p.2
        generalize (p.2.any fun z => z == s) = bb at c
        cases bb <;> simp [lcT, bindT, c]) (by simp only [line]; exact hlen)
      have inn := inn _ rfl
      have sq : seqT (intsL p.1) = some (p.1.map T.int) := rfl
      have hil : ∀ l : List Int, T.lst (l.map T.int) = intsL l := fun _ => rfl
      simp [lcT, bindT, wipeR, sq, inn]
      exact hil _) (by simp only [line, List.length_zip]; omega)
    rw [← bothI_zip'] at e3
    have lB : (bothI (setsI r b u v ls) (bwdS r b u v ls)).length = ls.length := by simp [bothI, lS, lR]
    have bmin : ∀ S, bltT S .min [.lst ((toldI ls).map T.int)] = some (.int mn) := fun S => by rw [hmn]; exact bl_minL S h2
    have bmax : ∀ S, bltT S .max [.lst ((toldI ls).map T.int)] = some (.int mx) := fun S => by rw [hmx]; exact bl_maxL S h2
    have cI := fun S => (co_inNil S (bothI (setsI r b u v ls) (bwdS r b u v ls))).trans (by rw [any_nil])
    have atB : ∀ S, ixT S (.lst ((bothI (setsI r b u v ls) (bwdS r b u v ls)).map intsL)) (.int (i : Nat)) = some (intsL ((bothI (setsI r b u v ls) (bwdS r b u v ls))[i]'(by omega))) := fun S => by
      rw [ix_lst, atI_k _ _ (by simpa using (by omega : i < (bothI (setsI r b u v ls) (bwdS r b u v ls)).length)), List.getElem?_map, List.getElem?_eq_getElem (by omega)]; rfl
    by_cases hb : (combL (bdsI r b ls) (bwdB r b ls)).any badB = true
    · rw [if_pos (.inl hb)]
      have hin := pe.1.mpr hb
      simp [fd_law_due, init, wipeR, e1, bindT, line, e2, hlr, m0, h1, cN, hne, bmin, bmax, b1, ← hwd, ← hu, ← hv, s1 S hc, s2, z1, e3, cI, hin]
    · rw [if_neg (by rintro (h | h) <;> contradiction)]
      have hb' : (combL (bdsI r b ls) (bwdB r b ls)).any badB = false := by simpa using hb
      have hin : ¬ [] ∈ bothI (setsI r b u v ls) (bwdS r b u v ls) := fun h => hb (pe.1.mp h)
      have hCi : i < (combL (bdsI r b ls) (bwdB r b ls)).length := by omega
      have em := pe.2 hb'
      have eb : (bothI (setsI r b u v ls) (bwdS r b u v ls))[i]'(by omega) = itv u v ((combL (bdsI r b ls) (bwdB r b ls))[i]) := by
        have := congrArg (fun L : List (List Int) => L[i]?) em
        simp only [List.getElem?_map, List.getElem?_eq_getElem hCi, List.getElem?_eq_getElem (show i < (bothI (setsI r b u v ls) (bwdS r b u v ls)).length by omega), Option.map_some, Option.some.injEq] at this
        exact this
      have tl : ∃ k, some k ∈ ls := ⟨mn, toldI_mem.mp (by rw [hmn]; exact mn1)⟩
      obtain ⟨k0, hk0⟩ := tl
      obtain ⟨⟨x1, hx1⟩, y1, hy1⟩ := comb_told ls i _ (List.getElem?_eq_getElem hCi) hk0
      have nb : badB ((combL (bdsI r b ls) (bwdB r b ls))[i]) = false := by
        rw [List.any_eq_false] at hb'
        simpa using hb' _ (List.getElem_mem hCi)
      have bin : BdIn u v ((combL (bdsI r b ls) (bwdB r b ls))[i]) := by
        obtain ⟨p, hp, q, hq, e⟩ := zip_in (List.getElem_mem hCi)
        rw [e]
        have g1 := bds_in w1 w3 ls hkk p hp
        have g2 := bds_in w1 w3 ls.reverse (fun k h => hkk k (by simpa using h)) q (by simpa [bwdB] using hq)
        rw [List.length_reverse] at g2
        rw [← hwd, ← hu, ← hv] at g1 g2
        exact comb_in g1 g2
      obtain ⟨c1, c2, hce⟩ : ∃ c1 c2, (combL (bdsI r b ls) (bwdB r b ls))[i] = (c1, c2) := ⟨_, _, rfl⟩
      rw [hce] at hx1 hy1 nb bin eb
      simp only at hx1 hy1
      subst hx1; subst hy1
      simp only [badB, decide_eq_false_iff_not] at nb
      obtain ⟨i1, i2, i3⟩ := itv_min (bin.1 x1 rfl) (bin.2 y1 rfl) (by omega)
      have tmin : ∀ S, bltT S .min [intsL (itv u v (some x1, some y1))] = some (.int x1) := fun S => by
        have := bl_minL S i3; rw [i1] at this; exact this
      have tmax : ∀ S, bltT S .max [intsL (itv u v (some x1, some y1))] = some (.int y1) := fun S => by
        have := bl_maxL S i3; rw [i2] at this; exact this
      rw [List.getElem?_eq_getElem hCi, hce]
      simp only [eb] at atB
      simp [fd_law_due, init, wipeR, e1, bindT, line, e2, hlr, m0, h1, cN, hne, bmin, bmax, b1, ← hwd, ← hu, ← hv, s1 S hc, s2, z1, e3, cI, hin, atB, tmin, tmax]
      rfl
end Fw

namespace Fw
open PySem L2 PyProof.Rows
/-! ## a trip is told rightly -/
theorem steps_app {r y : Int} : ∀ {ws : List Int}, stepsOk r ws → (∀ x, ws.getLast? = some x → absI (x - y) ≤ r) → stepsOk r (ws ++ [y])
  | [], _, _ => trivial
  | [a], _, h => ⟨h a rfl, trivial⟩
  | a :: b :: ws, hs, h => ⟨hs.1, steps_app (ws := b :: ws) hs.2 (fun x hx => h x (by simpa using hx))⟩
theorem zip_app {α β : Type} : ∀ {A : List α} {B : List β} {a : α} {b : β}, A.length = B.length → (A ++ [a]).zip (B ++ [b]) = A.zip B ++ [(a, b)]
  | [], [], a, b, _ => rfl
  | [], _ :: _, _, _, h => by simp at h
  | _ :: _, [], _, _, h => by simp at h
  | x :: A, y :: B, a, b, h => by simp [zip_app (A := A) (B := B) (by simpa using h)]
theorem TripI.facts {r b l a : Int} (hr : 0 ≤ r) (hb : 0 ≤ b) (hl : 0 ≤ l) {ws : List Int} {ls : List (Option Int)} {h s : Int} (t : TripI r b l a ws ls h s) :
    stepsOk r ws ∧ (∀ x, ws.getLast? = some x → x = h) ∧ (∀ x ∈ ws, absI (x - a) ≤ r * ws.length) ∧ absI (h - a) ≤ r * ws.length ∧ (ls.foldl stL (0, 0)).2 = s ∧ (ls.foldl stL (0, 0)).1 ≤ l ∧ (ws.zip ls).all (okPair b) = true ∧ (∀ k, some k ∈ ls → absI (k - a) ≤ r * ws.length + b) := by
  induction t with
  | nil => refine ⟨trivial, by simp, by simp, by simp [absI], rfl, by simpa using hl, rfl, by simp⟩
  | @lose ws ls h s h' t h1 h2 h3 ih =>
    obtain ⟨i1, i2, i3, i4, i5, i6, i7, i8⟩ := ih
    have e : r * ((ws ++ [h']).length : Nat) = r * (ws.length : Nat) + r := by rw [List.length_append, Int.natCast_add, Int.mul_add]; simp
    rw [absI_le] at i4
    have st := stL_two (ls.foldl stL (0, 0)) none
    refine ⟨steps_app i1 (fun x hx => by rw [i2 x hx, absI_le]; omega), fun x hx => by simpa using hx.symm, fun x hx => ?_, by rw [e, absI_le]; omega, ?_, ?_, ?_, fun k hk => ?_⟩
    · rw [e, absI_le]
      rcases List.mem_append.mp hx with hx | hx
      · have := i3 x hx; rw [absI_le] at this; omega
      · rw [List.mem_singleton.mp hx]; omega
    · rw [List.foldl_append]; show (stL _ none).2 = _; rw [st.1, i5]; rfl
    · rw [List.foldl_append]; show (stL _ none).1 ≤ _; rw [st.2, st.1, i5]; simp only [if_true]; split <;> omega
    · rw [zip_app t.len, List.all_append, i7]; rfl
    · rw [e]
      have hk : some k ∈ ls := by simpa using hk
      have := i8 k hk; omega
  | @see ws ls h s h' k t h1 h2 h3 h4 ih =>
    obtain ⟨i1, i2, i3, i4, i5, i6, i7, i8⟩ := ih
    have e : r * ((ws ++ [h']).length : Nat) = r * (ws.length : Nat) + r := by rw [List.length_append, Int.natCast_add, Int.mul_add]; simp
    rw [absI_le] at i4
    have st := stL_two (ls.foldl stL (0, 0)) (some k)
    refine ⟨steps_app i1 (fun x hx => by rw [i2 x hx, absI_le]; omega), fun x hx => by simpa using hx.symm, fun x hx => ?_, by rw [e, absI_le]; omega, ?_, ?_, ?_, fun k' hk => ?_⟩
    · rw [e, absI_le]
      rcases List.mem_append.mp hx with hx | hx
      · have := i3 x hx; rw [absI_le] at this; omega
      · rw [List.mem_singleton.mp hx]; omega
    · rw [List.foldl_append]; show (stL _ (some k)).2 = _; rw [st.1]; rfl
    · rw [List.foldl_append]; show (stL _ (some k)).1 ≤ _; rw [st.2, st.1]; simp only [reduceCtorEq, if_false]; split <;> omega
    · rw [zip_app t.len, List.all_append, i7]
      simp [okPair, absI_le]; omega
    · rw [e]
      rcases List.mem_append.mp hk with hk | hk
      · have := i8 k' hk; omega
      · simp at hk; rw [absI_le]; omega
theorem cutL_to (xs : List T) (k : Nat) (h : k ≤ xs.length) : cutL xs none (some (k : Int)) = xs.take k := by
  simp only [cutL, HT.sIx_nat, HT.sIx_none, Nat.min_eq_left h]
  simp
theorem cutL_from (xs : List T) (k : Nat) (h : k ≤ xs.length) : cutL xs (some (k : Int)) none = xs.drop k := by
  simp only [cutL, HT.sIx_nat, HT.sIx_none, Nat.min_eq_left h]
  exact List.take_of_length_le (by simp)
/-- looks with one of them bent -/
def bentL (ls : List (Option Int)) (i : Nat) (k : Option Int) : List (Option Int) := ls.take i ++ [k] ++ ls.drop (i + 1)
theorem bentL_len {ls : List (Option Int)} {i : Nat} {k : Option Int} (h : i < ls.length) : (bentL ls i k).length = ls.length := by
  simp [bentL]; omega
theorem bentL_mem {ls : List (Option Int)} {i : Nat} {k x : Option Int} (h : x ∈ bentL ls i k) : x ∈ ls ∨ x = k := by
  simp only [bentL, List.mem_append, List.mem_singleton] at h
  rcases h with (h | h) | h
  · exact .inl (List.mem_of_mem_take h)
  · exact .inr h
  · exact .inl (List.mem_of_mem_drop h)
theorem co_pl (S : Sto) (t : T) (h : t = .non ∨ ∃ p, t = prB p) : cop S .NotEq t t = some false := by
  rcases h with rfl | ⟨⟨x, y⟩, rfl⟩
  · rfl
  · cases x <;> cases y <;> simp [cop, prB, lookT, eqT, toD, toDs, shal, PyData.depth, PyData.depthAll, PyData.eqv, PyData.eqvAll]
theorem plT_form (r b l : Int) (ls : List (Option Int)) (i : Nat) : plT r b l ls i = .non ∨ ∃ p, plT r b l ls i = prB p := by
  unfold plT
  split
  · exact .inl rfl
  · split
    · exact .inr ⟨_, rfl⟩
    · exact .inl rfl
theorem co_nilT {S : Sto} (l : List Int) : cop S .Eq (intsT l) (.tup []) = some l.isEmpty := by
  cases l with
  | nil => rfl
  | cons a l =>
    have e : toDs ((a :: l).map T.int) = some ((a :: l).map PyData.int) := toDs_ints _
    simp only [intsT, cop, drf_tup, eqT, toD, e, toDs]
    have : shal (.tuple ((a :: l).map PyData.int)) (.tuple []) = true := by simp [shal, PyData.depth, PyData.depthAll]
    rw [this]
    rfl
theorem inner_ok (n : Nat) (a0 a1 a3 a4 a6 a7 a8 a9 a10 a11 a12 a13 y : Option T) (r b l : Int) (hw : WdOk r b l) (ls : List (Option Int)) (hl : ls.length ≤ 100) (hk : ∀ k, some k ∈ ls → -1000 ≤ k ∧ k ≤ 1000) (S : Sto) (hc : Cl S) :
    ∃ y', forL (frT (evO prg (n + 5)) (.nm 14) (.seq (.iff (.cmp .NotEq (.call 23 (.cons (.var 2) (.cons (.var 5) (.cons (.var 14) .nil)))) (.call 35 (.cons (.var 2) (.cons (.var 5) (.cons (.var 14) .nil))))) (.seq (.ret (.lit (.bl false))) .skip) .skip) .skip)) (rngT 0 ls.length) [a0, a1, some (mkWd r b l), a3, a4, some (looksT ls), a6, a7, a8, a9, a10, a11, a12, a13, y] S =
      some (.nx [a0, a1, some (mkWd r b l), a3, a4, some (looksT ls), a6, a7, a8, a9, a10, a11, a12, a13, y'] S) := by
  have hin : ∀ k ∈ ls, lookIn k := fun k hkm i hi => by
    subst hi
    have := hk i hkm
    exact ⟨by omega, by omega⟩
  obtain ⟨ρ', S', e, y', rfl, hS⟩ := forL_inv (g := frT (evO prg (n + 5)) (.nm 14) (.seq (.iff (.cmp .NotEq (.call 23 (.cons (.var 2) (.cons (.var 5) (.cons (.var 14) .nil)))) (.call 35 (.cons (.var 2) (.cons (.var 5) (.cons (.var 14) .nil))))) (.seq (.ret (.lit (.bl false))) .skip) .skip) .skip)) (fun ρ S' => ∃ y, ρ = [a0, a1, some (mkWd r b l), a3, a4, some (looksT ls), a6, a7, a8, a9, a10, a11, a12, a13, y] ∧ S' = S) (l := rngT 0 ls.length) (fun x hx ρ S' hi => by
    obtain ⟨y, rfl, hS⟩ := hi
    obtain ⟨i, hil, rfl⟩ := rngT_mem hx
    rw [Int.zero_add]
    refine ⟨_, _, .inl ?_, some (.int (i : Nat)), rfl, hS⟩
    have p := fun S => places_told_ok n r b l hw ls hl hin i hil S
    have d := law_due_ok (n + 3) r b l hw ls hl hk i hil S' (by rw [hS]; exact hc)
    have c := fun S => co_pl S _ (plT_form r b l ls i)
    simp [frT, bindT, p, d, c]) (ρ := [a0, a1, some (mkWd r b l), a3, a4, some (looksT ls), a6, a7, a8, a9, a10, a11, a12, a13, y]) (S := S) ⟨y, rfl, rfl⟩
  exact ⟨y', by rw [e, hS]⟩
theorem inner_for (n : Nat) (a0 a1 a3 a4 a6 a7 a8 a9 a10 a11 a12 a13 y : Option T) (r b l : Int) (hw : WdOk r b l) (ls : List (Option Int)) (hl : ls.length ≤ 100) (hk : ∀ k, some k ∈ ls → -1000 ≤ k ∧ k ≤ 1000) (S : Sto) (hc : Cl S) :
    ∃ y', evS (evO prg (n + 5)) (.for_ (.nm 14) (.rg1 (.blt false .len (.cons (.var 5) .nil))) (.seq (.iff (.cmp .NotEq (.call 23 (.cons (.var 2) (.cons (.var 5) (.cons (.var 14) .nil)))) (.call 35 (.cons (.var 2) (.cons (.var 5) (.cons (.var 14) .nil))))) (.seq (.ret (.lit (.bl false))) .skip) .skip) .skip)) [a0, a1, some (mkWd r b l), a3, a4, some (looksT ls), a6, a7, a8, a9, a10, a11, a12, a13, y] S =
      some (.nx [a0, a1, some (mkWd r b l), a3, a4, some (looksT ls), a6, a7, a8, a9, a10, a11, a12, a13, y'] S) := by
  obtain ⟨y', e⟩ := inner_ok n a0 a1 a3 a4 a6 a7 a8 a9 a10 a11 a12 a13 y r b l hw ls hl hk S hc
  have h := len_eq (E := evO prg (n + 5)) (i := 5) (ρ := [a0, a1, some (mkWd r b l), a3, a4, some (looksT ls), a6, a7, a8, a9, a10, a11, a12, a13, y]) (S := S) (l := ls.map lookT) rfl
  rw [List.length_map] at h
  exact ⟨y', for_eq (rg1_eq h (by omega)) e⟩
theorem both_for (n : Nat) (a0 a1 a3 a5 a6 a8 a9 a10 a11 a12 a13 y : Option T) (r b l : Int) (hw : WdOk r b l) (ls l2 : List (Option Int)) (hl : ls.length ≤ 100) (hk : ∀ k, some k ∈ ls → -1000 ≤ k ∧ k ≤ 1000) (hl2 : l2.length ≤ 100) (hk2 : ∀ k, some k ∈ l2 → -1000 ≤ k ∧ k ≤ 1000) (S : Sto) (hc : Cl S) :
    ∃ ρ', evS (evO prg (n + 5)) (.for_ (.nm 5) (.sq (.lst false (.cons (.var 7) (.cons (.var 4) .nil)))) (.seq (.for_ (.nm 14) (.rg1 (.blt false .len (.cons (.var 5) .nil))) (.seq (.iff (.cmp .NotEq (.call 23 (.cons (.var 2) (.cons (.var 5) (.cons (.var 14) .nil)))) (.call 35 (.cons (.var 2) (.cons (.var 5) (.cons (.var 14) .nil))))) (.seq (.ret (.lit (.bl false))) .skip) .skip) .skip)) .skip)) [a0, a1, some (mkWd r b l), a3, some (looksT l2), a5, a6, some (looksT ls), a8, a9, a10, a11, a12, a13, y] S = some (.nx ρ' S) := by
  obtain ⟨y1, o1⟩ := inner_for n a0 a1 a3 (some (looksT l2)) a6 (some (looksT ls)) a8 a9 a10 a11 a12 a13 y r b l hw ls hl hk S hc
  obtain ⟨y2, o2⟩ := inner_for n a0 a1 a3 (some (looksT l2)) a6 (some (looksT ls)) a8 a9 a10 a11 a12 a13 y1 r b l hw l2 hl2 hk2 S hc
  refine ⟨[a0, a1, some (mkWd r b l), a3, some (looksT l2), some (looksT l2), a6, some (looksT ls), a8, a9, a10, a11, a12, a13, y2], for_eq (l := [looksT ls, looksT l2]) (S1 := S) (by simp [line]) ?_⟩
  have t1 : frT (evO prg (n + 5)) (.nm 5) (.seq (.for_ (.nm 14) (.rg1 (.blt false .len (.cons (.var 5) .nil))) (.seq (.iff (.cmp .NotEq (.call 23 (.cons (.var 2) (.cons (.var 5) (.cons (.var 14) .nil)))) (.call 35 (.cons (.var 2) (.cons (.var 5) (.cons (.var 14) .nil))))) (.seq (.ret (.lit (.bl false))) .skip) .skip) .skip)) .skip) (looksT ls) [a0, a1, some (mkWd r b l), a3, some (looksT l2), a5, a6, some (looksT ls), a8, a9, a10, a11, a12, a13, y] S = some (.nx [a0, a1, some (mkWd r b l), a3, some (looksT l2), some (looksT ls), a6, some (looksT ls), a8, a9, a10, a11, a12, a13, y1] S) := by
    rw [frT_nm]
    simp only [List.set_cons_succ, List.set_cons_zero]
    exact seq_one o1
  have t2 : frT (evO prg (n + 5)) (.nm 5) (.seq (.for_ (.nm 14) (.rg1 (.blt false .len (.cons (.var 5) .nil))) (.seq (.iff (.cmp .NotEq (.call 23 (.cons (.var 2) (.cons (.var 5) (.cons (.var 14) .nil)))) (.call 35 (.cons (.var 2) (.cons (.var 5) (.cons (.var 14) .nil))))) (.seq (.ret (.lit (.bl false))) .skip) .skip) .skip)) .skip) (looksT l2) [a0, a1, some (mkWd r b l), a3, some (looksT l2), some (looksT ls), a6, some (looksT ls), a8, a9, a10, a11, a12, a13, y1] S = some (.nx [a0, a1, some (mkWd r b l), a3, some (looksT l2), some (looksT l2), a6, some (looksT ls), a8, a9, a10, a11, a12, a13, y2] S) := by
    rw [frT_nm]
    simp only [List.set_cons_succ, List.set_cons_zero]
    exact seq_one o2
  rw [forL_nx t1, forL_nx t2, forL_nil]
theorem trip_right_ok (n k : Nat) (S : Sto) (tn : Tn S k) (hc : Cl S) (w a b0 c d e f : Int) (g : Str) (hW : WOk w a b0 c d e f g) (hw6 : w ≤ 20) (r b l : Int) (hwd : WdOk r b l) :
    ∃ S', runO prg (n + 6) i_law_trip_right [.box k, mkW a b0 c d e f g, mkWd r b l] S = some (.ok (.bl true) S') ∧ Tw k S S' := by
  have hG := hW.good (by omega)
  obtain ⟨h1, h2, h3, h4, h5, h6, h7, h8, h9, h10, h11, h12, h13⟩ := hW
  obtain ⟨v1, v2, v3, v4, v5, v6⟩ := id hwd
  obtain ⟨m, S1, e1, m0, m1, w1⟩ := scoop_ok (n + 4) k S 9 tn (by decide) (by decide)
  obtain ⟨ws, ls, S2, st, x2, y2, hst, e2, hwl, ti, w2⟩ := law_trip_ok (n + 2) k S1 (mkW a b0 c d e f g) a b0 r b l m _ rfl hwd w1.tn (hc.tw w1) m0 (by omega)
  obtain ⟨i1, _, i3, _, i5, i6, i7, i8⟩ := ti.facts v1 v3 v5
  have hlen := ti.len
  have hc2 := (hc.tw w1).tw w2
  have wl8 : ws.length ≤ 8 := by omega
  have rl : r * (ws.length : Int) ≤ 3 * 8 := Int.mul_le_mul v2 (by omega) (by omega) (by omega)
  have stb : -10 ≤ st ∧ st ≤ 30 := by rcases hst with h | h | h <;> omega
  have wb : ∀ x ∈ ws, -100 ≤ x ∧ x ≤ 100 := fun x hx => by have := i3 x hx; rw [absI_le] at this; omega
  have lb : ∀ k, some k ∈ ls → -100 ≤ k ∧ k ≤ 100 := fun k hk => by have := i8 k hk; rw [absI_le] at this; omega
  have wp : ∀ x ∈ ws, placeIn x := fun x hx => by have := wb x hx; exact ⟨by omega, by omega⟩
  have lin : ∀ k ∈ ls, lookIn k := fun k hk i hi => by subst hi; have := lb i hk; exact ⟨by omega, by omega⟩
  have hgo : goB b l ws ls = true := by simp only [goB, Bool.and_eq_true, decide_eq_true_eq]; exact ⟨i6, i7⟩
  -- the count
  obtain ⟨ρ', S', e3, x10, x11, rfl, hS3⟩ := forL_pre (g := frT (evO prg (n + 5)) (.tp (.cn (.nm 10) (.cn (.nm 11) .nl))) (.seq (.asg (.nm 8) (.ix (.call 31 (.cons (.var 1) (.cons (.var 8) (.cons (.var 11) .nil)))) (.lit (.int 0)))) (.seq (.asg (.nm 9) (.op false .Add (.var 9) (.ite (.cmp .NotEq (.ix (.var 8) (.lit (.int 0))) (.cmp .GtE (.call 29 (.cons (.var 1) (.cons (.var 10) .nil))) (.lit (.int 0)))) (.lit (.int 1)) (.lit (.int 0))))) .skip))) prL
    (fun pre ρ S' => ∃ x y, ρ = [some (.box k), some (mkW a b0 c d e f g), some (mkWd r b l), none, none, none, some (intsT ws), some (looksT ls), some (stT (wrI a b0 c d e f g (0, false, 0) pre).2.1 (wrI a b0 c d e f g (0, false, 0) pre).2.2), some (.int (wrI a b0 c d e f g (0, false, 0) pre).1), x, y, none, none, none] ∧ S' = S2) (ws.zip ls) (fun pre p post _ ρ S' hi => by
      obtain ⟨x, y, rfl, rfl⟩ := hi
      refine ⟨_, _, .inl ?_, some (.int p.1), some (lookT p.2), rfl, rfl⟩
      have g2 := fun w row S => law_onward_ok (n + 3) a b0 c d e f g h5 h7 w row p.2 S
      have g3 : ∀ S, runO prg (n + 5) i_law_deep [mkW a b0 c d e f g, .int p.1] S = some (.ok (.int (depI a b0 p.1)) S) := fun S => law_deep_ok (n + 4) a b0 p.1 [.int c, .int d, .int e, .int f, .str g] S
      unfold wrI
      rw [List.foldl_append]
      generalize pre.foldl (wrSt a b0 c d e f g) (0, false, 0) = q
      obtain ⟨q1, q2, q3⟩ := q
      simp only [List.foldl_cons, List.foldl_nil, wrSt]
      generalize hs : stepI e f (isKeep g) q2 q3 (wordL a b0 c d p.2) = s at *
      have g4 : ∀ S, runO prg (n + 5) i_law_onward [mkW a b0 c d e f g, stT q2 q3, lookT p.2] S = some (.ok (.tup [stT s.1 s.2.1, s.2.2.t]) S) := fun S => by rw [g2, hs]
      obtain ⟨s1, s2, s3⟩ := s
      have g5 : ∀ S, ixT S (stT s1 s2) (.int 0) = some (.bl s1) := fun S => by simp [stT]
      cases s1 <;> by_cases q : 0 ≤ depI a b0 p.1 <;> simp [frT, bindT, prL, g4, g3, g5, co_blN, q]) (ρ := [some (.box k), some (mkW a b0 c d e f g), some (mkWd r b l), none, none, none, some (intsT ws), some (looksT ls), some (stT false 0), some (.int 0), none, none, none, none, none]) (S := S2) ⟨none, none, rfl, rfl⟩
  rw [hS3] at e3
  have g1 := fun S => go_with_ok n r b l hwd ws ls S hlen (by omega) wp i1 lin
  rw [hgo] at g1
  have g2 := fun S => wrong_looks_ok n a b0 c d e f g hG r b l hwd ws ls S hlen (by omega) wp i1 lin hgo
  generalize hq : wrI a b0 c d e f g (0, false, 0) (ws.zip ls) = q at *
  obtain ⟨q1, q2, q3⟩ := q
  have isT : cop S2 .IsNot (.bl true) (.bl true) = some false := rfl
  have body : ∀ r', fd_law_trip_right.body = r' → True := fun _ _ => trivial
  rw [run_succ prg (n + 5) i_law_trip_right _ S fd_law_trip_right rfl rfl]
  have hi : init fd_law_trip_right [.box k, mkW a b0 c d e f g, mkWd r b l] = [some (.box k), some (mkW a b0 c d e f g), some (mkWd r b l), none, none, none, none, none, none, none, none, none, none, none, none] := rfl
  have hkeep : fd_law_trip_right.keep = false := rfl
  rw [hi, hkeep]
  suffices H : ∃ S', evS (evO prg (n + 5)) fd_law_trip_right.body [some (.box k), some (mkW a b0 c d e f g), some (mkWd r b l), none, none, none, none, none, none, none, none, none, none, none, none] S = some (.rt (.bl true) S') ∧ Tw k S S' by
    obtain ⟨S', h, hw⟩ := H
    refine ⟨S', ?_, hw⟩
    rw [h, fin_rt, fin1_le (by rw [hw.len]; exact Nat.le_refl _)]
  unfold fd_law_trip_right
  have w12 := w1.trans w2
  by_cases hnil : ws = []
  · refine ⟨S2, ?_, w12⟩
    refine (seq_nx (ρ' := [some (.box k), some (mkW a b0 c d e f g), some (mkWd r b l), none, none, none, some (intsT ws), some (looksT ls), none, none, none, none, none, none, none]) (S' := S2) (by simp [bindT, e1, e2])).trans ?_
    refine (seq_nx (ρ' := [some (.box k), some (mkW a b0 c d e f g), some (mkWd r b l), none, none, none, some (intsT ws), some (looksT ls), some (stT false 0), some (.int 0), none, none, none, none, none]) (S' := S2) (by simp [bindT, stT, line])).trans ?_
    refine (seq_nx (for_eq (l := (ws.zip ls).map prL) (S1 := S2) (by simp [zipT_pr]) e3)).trans ?_
    refine (seq_nx (ρ' := _) (S' := S2) (by simp [g1, isT]; rfl)).trans ?_
    refine (seq_nx (ρ' := _) (S' := S2) (by simp [g2]; rfl)).trans ?_
    have cn := co_nilT (S := S2) ws
    rw [hnil] at cn
    refine (seq_rt (t := .bl true) (S' := S2) (by subst hnil; simp [line, cn])).trans rfl
  · have hpos : 0 < ws.length := List.length_pos_iff.mpr hnil
    obtain ⟨z, S3, e4, z0, z1, w3⟩ := scoop_ok (n + 4) k S2 ws.length w12.tn (by omega) (by omega)
    obtain ⟨fr, S4, e5, mf, w4⟩ := any_int (n + 3) k S3 [1, -1, 4] w3.tn (by simp) (by simp)
    have w14 := (w12.trans w3).trans w4
    have hc4 := (hc2.tw w3).tw w4
    simp only [List.map_cons, List.map_nil] at e5
    simp only [List.mem_cons, List.not_mem_nil, or_false] at mf
    obtain ⟨at_, rfl⟩ : ∃ j : Nat, z = (j : Int) := ⟨z.toNat, by omega⟩
    have hat : at_ < ls.length := by omega
    obtain ⟨lk, hlk⟩ : ∃ lk, ls[at_]? = some lk := ⟨_, List.getElem?_eq_getElem hat⟩
    obtain ⟨late, hlate⟩ : ∃ late : Option Int, late = lk.map (· + fr) := ⟨_, rfl⟩
    have aL : ∀ S, ixT S (looksT ls) (.int (at_ : Nat)) = some (lookT lk) := fun S => by
      rw [ix_tup, atI_k _ _ (by simpa using hat), List.getElem?_map, hlk]; rfl
    have hlm : lk ∈ ls := List.mem_of_getElem? hlk
    have bb : ∀ k, some k ∈ bentL ls at_ late → -1000 ≤ k ∧ k ≤ 1000 := fun k hk => by
      rcases bentL_mem hk with h | h
      · have := lb k h; omega
      · cases lk with
        | none => rw [hlate] at h; cases h
        | some j =>
          have := lb j hlm
          rw [hlate] at h
          simp only [Option.map_some, Option.some.injEq] at h
          omega
    have bl := bentL_len (k := late) hat
    have bin : ∀ k ∈ bentL ls at_ late, lookIn k := fun k hk i hi => by subst hi; have := bb i hk; exact ⟨by omega, by omega⟩
    have cut1 : cutL (ls.map lookT) none (some (at_ : Int)) = (ls.take at_).map lookT := by
      rw [cutL_to _ _ (by rw [List.length_map]; omega), List.map_take]
    have cut2 : cutL (ls.map lookT) (some ((at_ : Int) + 1)) none = (ls.drop (at_ + 1)).map lookT := by
      have := cutL_from (ls.map lookT) (at_ + 1) (by rw [List.length_map]; omega)
      rw [Int.natCast_add] at this
      rw [List.map_drop]; exact this
    have hj : (ls.take at_).map lookT ++ [lookT late] ++ (ls.drop (at_ + 1)).map lookT = (bentL ls at_ late).map lookT := by simp [bentL]
    have add1 : bop .Add (.tup ((ls.take at_).map lookT)) (.tup [lookT late]) = some (.tup ((ls.take at_).map lookT ++ [lookT late])) := bo_addT (by simp [line]; omega)
    have add2 : bop .Add (.tup ((ls.take at_).map lookT ++ [lookT late])) (.tup ((ls.drop (at_ + 1)).map lookT)) = some (looksT (bentL ls at_ late)) := by
      rw [bo_addT (by simp [line]; omega), hj]
    have g5 := fun S => go_with_ok n r b l hwd ws (bentL ls at_ late) S (by omega) (by omega) wp i1 bin
    have g6 := fun S => law_go_ok (n + 4) r b l v5 ws (bentL ls at_ late) S (by omega) (by omega) i1
    have cb : ∀ S x, cop S .NotEq (.bl x) (.bl x) = some false := fun S x => by rw [co_blN]; simp
    obtain ⟨ρ5, o5⟩ := both_for n (some (.box k)) (some (mkW a b0 c d e f g)) (some (lookT late)) none (some (intsT ws)) (some (stT q2 q3)) (some (.int q1)) x10 x11 (some (.int (at_ : Nat))) (some (.int fr)) none r b l hwd ls (bentL ls at_ late) (by omega) (fun k hk => by have := lb k hk; omega) (by omega) bb S4 hc4
    refine ⟨S4, ?_, w14⟩
    refine (seq_nx (ρ' := [some (.box k), some (mkW a b0 c d e f g), some (mkWd r b l), none, none, none, some (intsT ws), some (looksT ls), none, none, none, none, none, none, none]) (S' := S2) (by simp [bindT, e1, e2])).trans ?_
    refine (seq_nx (ρ' := [some (.box k), some (mkW a b0 c d e f g), some (mkWd r b l), none, none, none, some (intsT ws), some (looksT ls), some (stT false 0), some (.int 0), none, none, none, none, none]) (S' := S2) (by simp [bindT, stT, line])).trans ?_
    refine (seq_nx (for_eq (l := (ws.zip ls).map prL) (S1 := S2) (by simp [zipT_pr]) e3)).trans ?_
    refine (seq_nx (ρ' := _) (S' := S2) (by simp [g1, isT]; rfl)).trans ?_
    refine (seq_nx (ρ' := _) (S' := S2) (by simp [g2]; rfl)).trans ?_
    have cn := co_nilT (S := S2) ws
    have hne : ws.isEmpty = false := by simpa using hnil
    rw [hne] at cn
    refine (seq_nx (ρ' := [some (.box k), some (mkW a b0 c d e f g), some (mkWd r b l), none, none, none, some (intsT ws), some (looksT ls), some (stT q2 q3), some (.int q1), x10, x11, none, none, none]) (S' := S2) (by simp [line, cn])).trans ?_
    refine (seq_nx (ρ' := [some (.box k), some (mkW a b0 c d e f g), some (mkWd r b l), none, none, none, some (intsT ws), some (looksT ls), some (stT q2 q3), some (.int q1), x10, x11, some (.int (at_ : Nat)), some (.int fr), none]) (S' := S4) (by simp [e4, e5, line])).trans ?_
    refine (seq_nx (ρ' := [some (.box k), some (mkW a b0 c d e f g), some (mkWd r b l), some (lookT late), none, none, some (intsT ws), some (looksT ls), some (stT q2 q3), some (.int q1), x10, x11, some (.int (at_ : Nat)), some (.int fr), none]) (S' := S4) (by
      cases lk with
      | none => subst hlate; simp [bindT, aL, lookT_n, cop]
      | some j => subst hlate; simp [bindT, aL, lookT_s, cop])).trans ?_
    refine (seq_nx (ρ' := [some (.box k), some (mkW a b0 c d e f g), some (mkWd r b l), some (lookT late), some (looksT (bentL ls at_ late)), none, some (intsT ws), some (looksT ls), some (stT q2 q3), some (.int q1), x10, x11, some (.int (at_ : Nat)), some (.int fr), none]) (S' := S4) (by
      simp only [wS_asg, wE_op, wE_sl, wE_var, wE_nil, wE_tup, wE_cons, wE_lit, List.getElem?_cons_succ, List.getElem?_cons_zero, isNil_nil, isNil_var, isNil_op, part_nil, part_int, sl_tup, lift_f, cut1, drf_tup, drf_int, bo_add, tups_t, List.length_cons, List.length_nil, line, Nat.reduceAdd, Nat.reduceLeDiff, if_true, add1, cut2, add2, bindT, List.set_cons_succ, List.set_cons_zero])).trans ?_
    refine (seq_nx (ρ' := [some (.box k), some (mkW a b0 c d e f g), some (mkWd r b l), some (lookT late), some (looksT (bentL ls at_ late)), none, some (intsT ws), some (looksT ls), some (stT q2 q3), some (.int q1), x10, x11, some (.int (at_ : Nat)), some (.int fr), none]) (S' := S4) (by simp [g5, g6, cb])).trans ?_
    refine (seq_nx o5).trans ?_
    exact seq_rt (ret_eq rfl)
end Fw

namespace Fw
open PySem L2 PyProof.Rows
/-! ## refusals -/
theorem need_walk_ex (n : Nat) (a b c : Int) (t : T) (S : Sto) (hp : pl2 t) (hg : goodWk a t = false) : runO prg (n + 3) i_need_walk [mkWd a b c, t] S = some (.ex 4 none S) := by
  rw [run_succ prg (n + 2) i_need_walk _ S fd_need_walk rfl rfl]
  simp [fd_need_walk, init, igk_ok, hp, hg]
theorem go_with_ex (n : Nat) (r b l : Int) (hw : WdOk r b l) (t u : T) (S : Sto) (hp : pl2 t) (hg : goodWk r t = false) : runO prg (n + 5) i_go_with [mkWd r b l, t, u] S = some (.ex 4 none S) := by
  rw [run_succ prg (n + 4) i_go_with _ S fd_go_with rfl rfl]
  have nw := fun S => need_world_ok (n + 1) (mkWd r b l) S (mkWd_pl r b l) (mkWd_good hw)
  have nk := fun S => need_walk_ex (n + 1) r b l t S hp hg
  simp [fd_go_with, init, nw, nk]
theorem wrong_looks_ex (n : Nat) (a0 b0 c d e f : Int) (g : Str) (hW : WGood a0 b0 c d e f g) (r b l : Int) (hw : WdOk r b l) (t u : T) (S : Sto) (hp : pl2 t) (hg : goodWk r t = false) : runO prg (n + 5) i_wrong_looks [mkW a0 b0 c d e f g, mkWd r b l, t, u] S = some (.ex 4 none S) := by
  rw [run_succ prg (n + 4) i_wrong_looks _ S fd_wrong_looks rfl rfl]
  have nc := fun S => need_watcher_ok (n + 1) (mkW a0 b0 c d e f g) S (mkW_pl ..) (mkW_good hW)
  have nw := fun S => need_world_ok (n + 1) (mkWd r b l) S (mkWd_pl r b l) (mkWd_good hw)
  have nk := fun S => need_walk_ex (n + 1) r b l t S hp hg
  simp [fd_wrong_looks, init, nc, nw, nk]
/-- what are looks, of plain values -/
def isLk : T → Bool
  | .non => true
  | t => isI (-100000000000000000000000000000000) 100000000000000000000000000000000 t
def areLk : T → Bool
  | .tup l => decide (l.length ≤ 100) && l.all isLk
  | _ => false
theorem is_look_g (n : Nat) (t : T) (S : Sto) (ht : pl t = true) : runO prg (n + 2) i_is_look [t] S = some (.ok (.bl (isLk t)) S) := by
  rw [run_succ prg (n + 1) i_is_look _ S fd_is_look rfl rfl]
  have h := fun S => is_from_ok n t (-100000000000000000000000000000000) 100000000000000000000000000000000 S ht
  cases t with
  | fn s => simp [pl] at ht
  | box s => simp [pl] at ht
  | scr s => simp [pl] at ht
  | _ => simp [fd_is_look, init, cop, cvals, h, isLk]
theorem are_looks_g (n : Nat) (t : T) (S : Sto) (hp : pl2 t) : runO prg (n + 3) i_are_looks [t] S = some (.ok (.bl (areLk t)) S) := by
  rw [run_succ prg (n + 2) i_are_looks _ S fd_are_looks rfl rfl]
  obtain ⟨ht, hl⟩ := hp
  cases t with
  | fn s => simp [pl] at ht
  | box s => simp [pl] at ht
  | scr s => simp [pl] at ht
  | tup l =>
    have hp := hl l rfl
    by_cases h1 : l.length ≤ 100
    · have h1' : (l.length : Int) ≤ 100 := by omega
      have e := lcL_encM (g := lcT (evO prg (n + 2)) (.call 3 (.cons (.var 1) .nil)) (.nm 1) (.lit (.bl true)) [some (.tup l), none]) id (fun t => T.bl (isLk t)) (S := S) l (fun k hkm => by
        simp [lcT, bindT, is_look_g, hp k hkm]) (by simp only [line]; omega)
      rw [List.map_id] at e
      have b : boolsOf (l.map fun t => T.bl (isLk t)) = some (l.map isLk) := boolsOf_map _ _
      simp [fd_are_looks, init, isiT, tyT, wipeR, e, b, h1', areLk, h1, all_map_id]
    · have h1' : ¬ (l.length : Int) ≤ 100 := by omega
      simp [fd_are_looks, init, isiT, tyT, h1', areLk, h1]
  | _ => simp [fd_are_looks, init, isiT, tyT, areLk]
theorem need_looks_ex (n : Nat) (t : T) (S : Sto) (hp : pl2 t) (hg : areLk t = false) : runO prg (n + 4) i_need_looks [t] S = some (.ex 3 none S) := by
  rw [run_succ prg (n + 3) i_need_looks _ S fd_need_looks rfl rfl]
  simp [fd_need_looks, init, are_looks_g, hp, hg]
theorem go_with_ex2 (n : Nat) (r b l : Int) (hw : WdOk r b l) (ws : List Int) (h1 : ws.length ≤ 100) (hpl : ∀ i ∈ ws, placeIn i) (hs : stepsOk r ws) (u : T) (S : Sto) (hp : pl2 u) (hg : areLk u = false) : runO prg (n + 5) i_go_with [mkWd r b l, intsT ws, u] S = some (.ex 3 none S) := by
  rw [run_succ prg (n + 4) i_go_with _ S fd_go_with rfl rfl]
  have nw := fun S => need_world_ok (n + 1) (mkWd r b l) S (mkWd_pl r b l) (mkWd_good hw)
  have nk := fun S => need_walk_ok (n + 1) r b l ws S h1 hpl hs
  have nl := fun S => need_looks_ex n u S hp hg
  simp [fd_go_with, init, nw, nk, nl]
theorem places_ex (n : Nat) (r b l : Int) (hw : WdOk r b l) (ls : List (Option Int)) (hl : ls.length ≤ 100) (hk : ∀ k ∈ ls, lookIn k) (t : T) (S : Sto) (hp : pl t = true) (hg : isI 0 ((ls.length : Int) - 1) t = false) : runO prg (n + 5) i_places_told [mkWd r b l, looksT ls, t] S = some (.ex 5 none S) := by
  rw [run_succ prg (n + 4) i_places_told _ S fd_places_told rfl rfl]
  have nw := fun S => need_world_ok (n + 1) (mkWd r b l) S (mkWd_pl r b l) (mkWd_good hw)
  have nl := fun S => need_looks_ok n ls S hl hk
  have hif := fun S => is_from_ok (n + 3) t 0 ((ls.length : Int) - 1) S hp
  rw [hg] at hif
  simp [fd_places_told, init, nw, nl, hif]
theorem wrong_looks_ex2 (n : Nat) (a0 b0 c d e f : Int) (g : Str) (hW : WGood a0 b0 c d e f g) (r b l : Int) (hw : WdOk r b l) (ws : List Int) (ls : List (Option Int)) (S : Sto) (h1 : ws.length ≤ 100) (hp : ∀ i ∈ ws, placeIn i) (hs : stepsOk r ws) (h2 : ls.length ≤ 100) (hk : ∀ k ∈ ls, lookIn k)
    (hg : ws.length ≠ ls.length) : runO prg (n + 5) i_wrong_looks [mkW a0 b0 c d e f g, mkWd r b l, intsT ws, looksT ls] S = some (.ex 3 none S) := by
  rw [run_succ prg (n + 4) i_wrong_looks _ S fd_wrong_looks rfl rfl]
  have nc := fun S => need_watcher_ok (n + 1) (mkW a0 b0 c d e f g) S (mkW_pl ..) (mkW_good hW)
  have nw := fun S => need_world_ok (n + 1) (mkWd r b l) S (mkWd_pl r b l) (mkWd_good hw)
  have nk := fun S => need_walk_ok (n + 1) r b l ws S h1 hp hs
  have nl := fun S => need_looks_ok n ls S h2 hk
  have gz : ∀ S, runO prg (n + 4) i_goes [mkWd r b l, intsT ws, looksT ls] S = some (.ok (.bl false) S) := fun S => by
    rw [run_succ prg (n + 3) i_goes _ S fd_goes rfl rfl]
    have : ¬ (ws.length : Int) = ls.length := by omega
    simp [fd_goes, init, this]
  simp [fd_wrong_looks, init, nc, nw, nk, nl, gz]
end Fw

namespace Fw
open PySem L2 PyProof.Rows
/-! ## the law -/
theorem prg_lam : prg.lam = lams := id rfl
def lawIn : IS := match fd_law.body with
  | .seq (.for_ _ _ (.seq _ (.seq (.for_ _ _ b) _))) _ => b
  | _ => .skip
def lawEnd : IS := match fd_law.body with
  | .seq _ b => b
  | _ => .skip
theorem law_split : fd_law.body = .seq (.for_ (.nm 1) (.rg1 (.blt false .max (.cons (.lit (.int 4)) (.cons (.blt false .min (.cons (.lit (.int 12)) (.cons (.op false .Add (.blt false .len (.cons (.var 0) .nil)) (.lit (.int 3))) .nil))) .nil)))) (.seq (.asg (.nm 3) (.call i_law_tun (.cons (.var 0) (.cons (.var 1) .nil)))) (.seq (.for_ (.nm 4) (.rg1 (.lit (.int 2))) lawIn) .skip))) lawEnd := rfl
def zeros (n : Nat) : List T := (List.replicate n [T.int 0]).flatten
theorem zeros_mem {n : Nat} {x : T} (h : x ∈ zeros n) : x = .int 0 := by
  simp [zeros] at h; exact h.2
theorem zeros_len (n : Nat) : (zeros n).length = n := by simp [zeros]
theorem bop_rep (a : T) (k : Int) (h : decide (2 ≤ k) = true) (h2 : decide (k ≤ 1000) = true) : bop .Mult (.tup [a]) (.int k) = some (.tup (List.replicate k.toNat [a]).flatten) := by
  simp only [decide_eq_true_eq] at h h2
  simp [bop, h, h2]
theorem zeros101 : bop .Mult (.tup [.int 0]) (.int 101) = some (.tup (zeros 101)) := bop_rep (.int 0) 101 rfl rfl
theorem pl2_at {l : List T} (h : ∀ x ∈ l, pl x = true) : pl2 (.tup l) := ⟨rfl, fun l' e x hx => by cases e; exact h x hx⟩
theorem pl2_nt {t : T} (h : pl t = true) (hn : ∀ l, t ≠ .tup l) : pl2 t := ⟨h, fun l e => absurd e (hn l)⟩
theorem zeros_pl (n : Nat) : pl2 (.tup (zeros n)) := pl2_at fun x hx => by rw [zeros_mem hx]; rfl
def oddW (r : Int) : List T := [.non, .tup [.int 0, .int (r + 1)], .lst [.int 0], .tup (zeros 101), .tup [.str (Str.ofString "0")]]
theorem oddW_ok {r : Int} (hr : 0 ≤ r) : ∀ t ∈ oddW r, pl2 t ∧ goodWk r t = false := by
  intro t ht
  simp only [oddW, List.mem_cons, List.not_mem_nil, or_false] at ht
  rcases ht with rfl | rfl | rfl | rfl | rfl
  · exact ⟨pl2_nt rfl (by intro l h; cases h), rfl⟩
  · refine ⟨pl2_at (by simp), ?_⟩
    have : ¬ absI (0 - (r + 1)) ≤ r := by rw [absI_le]; omega
    simp only [goodWk, zipT, List.tail_cons, List.all_cons, List.all_nil, stepB, this]
    simp
  · exact ⟨pl2_nt rfl (by intro l h; cases h), rfl⟩
  · refine ⟨zeros_pl 101, ?_⟩
    have := zeros_len 101
    simp only [goodWk, this]
    rfl
  · exact ⟨pl2_at (by simp), by simp [goodWk, isI]⟩
def oddL : List T := [.non, .lst [.int 0], .tup [.bl true], .tup (zeros 101)]
theorem oddL_ok : ∀ t ∈ oddL, pl2 t ∧ areLk t = false := by
  intro t ht
  simp only [oddL, List.mem_cons, List.not_mem_nil, or_false] at ht
  rcases ht with rfl | rfl | rfl | rfl
  · exact ⟨pl2_nt rfl (by intro l h; cases h), rfl⟩
  · exact ⟨pl2_nt rfl (by intro l h; cases h), rfl⟩
  · exact ⟨pl2_at (by simp; rfl), by simp [areLk, isLk, isI]⟩
  · refine ⟨zeros_pl 101, ?_⟩
    have := zeros_len 101
    simp only [areLk, this]
    rfl
def oddI : List T := [.non, .int (-1), .int 2, .bl true]
theorem oddI_ok : ∀ t ∈ oddI, pl t = true ∧ isI 0 1 t = false := by
  intro t ht
  simp only [oddI, List.mem_cons, List.not_mem_nil, or_false] at ht
  rcases ht with rfl | rfl | rfl | rfl <;> exact ⟨rfl, rfl⟩
theorem strN (S : Sto) (a : Str) : cop S .NotEq (.str a) (.str a) = some false := by rw [co_strN]; simp
def InnS (ns : List Int) (k : Nat) (ρ : Rho) (S : Sto) : Prop := Tn S k ∧ Cl S ∧ ∃ a b d e f g h, ρ = [some (.scr ns), a, b, some (.box k), d, e, f, g, h]
/-- a loop over written values that leaves the store and all names but one -/
theorem for_odd {E : EV} {b : IS} {l : List T} {S : Sto} (i : Nat) (ρ : Rho) (hi : i < ρ.length) (h : ∀ t ∈ l, ∀ u : Option T, evS E b (ρ.set i (some t)) S = some (.nx (ρ.set i (some t)) S)) : ∃ u, forL (frT E (.nm i) b) l ρ S = some (.nx (ρ.set i u) S) := by
  have key : ∀ (l : List T) (u : Option T), (∀ t ∈ l, evS E b (ρ.set i (some t)) S = some (.nx (ρ.set i (some t)) S)) → ∃ u', forL (frT E (.nm i) b) l (ρ.set i u) S = some (.nx (ρ.set i u') S) := by
    intro l
    induction l with
    | nil => intro u _; exact ⟨u, rfl⟩
    | cons t l ih =>
      intro u hh
      obtain ⟨u', e⟩ := ih (some t) fun t' ht' => hh t' (List.mem_cons_of_mem _ ht')
      refine ⟨u', ?_⟩
      have h1 : frT E (.nm i) b t (ρ.set i u) S = some (.nx (ρ.set i (some t)) S) := by
        rw [frT_nm, List.set_set]
        exact hh t List.mem_cons_self
      rw [forL_nx h1, e]
  obtain ⟨u, e⟩ := key l ρ[i] fun t ht => h t ht none
  refine ⟨u, ?_⟩
  rw [← e]
  simp
theorem odd1 (n : Nat) (a0 a1 a2 a3 a4 a5 a7 : Option T) (w a b0 c d e f : Int) (g : Str) (hG : WGood a b0 c d e f g) (r b l : Int) (hw : WdOk r b l) (S : Sto) :
    ∃ u, evS (evO prg (n + 12)) (.for_ (.nm 7) (.sq (.lst false (.cons (.lit .non) (.cons (.tup (.cons (.lit (.int 0)) (.cons (.op false .Add (.ix (.var 6) (.lit (.int 0))) (.lit (.int 1))) .nil))) (.cons (.lst false (.cons (.lit (.int 0)) .nil)) (.cons (.op false .Mult (.tup (.cons (.lit (.int 0)) .nil)) (.lit (.int 101))) (.cons (.tup (.cons (.lit (.str (Str.ofString "0"))) .nil)) .nil))))))) (.seq (.iff (.cmp .NotEq (.lam 0 (.callL 21 (.cons (.var 6) (.cons (.var 7) (.cons (.lit .non) .nil))))) (.lit (.str (Str.ofString "walk")))) (.seq (.ret (.lit (.bl false))) .skip) .skip) (.seq (.iff (.cmp .NotEq (.lam 0 (.callL 22 (.cons (.var 8) (.cons (.var 6) (.cons (.var 7) (.cons (.lit .non) .nil)))))) (.lit (.str (Str.ofString "walk")))) (.seq (.ret (.lit (.bl false))) .skip) .skip) .skip))) [a0, a1, a2, a3, a4, a5, some (mkWd r b l), a7, some (mkW a b0 c d e f g)] S = some (.nx [a0, a1, a2, a3, a4, a5, some (mkWd r b l), u, some (mkW a b0 c d e f g)] S) := by
  have m0 : ∀ S, _ := mkWd_at (a := r) (b := b) (c := l)
  obtain ⟨u, h⟩ := for_odd (E := evO prg (n + 12)) (b := (.seq (.iff (.cmp .NotEq (.lam 0 (.callL i_go_with (.cons (.var 6) (.cons (.var 7) (.cons (.lit .non) .nil))))) (.lit (.str (Str.ofString "walk")))) (.seq (.ret (.lit (.bl false))) .skip) .skip) (.seq (.iff (.cmp .NotEq (.lam 0 (.callL i_wrong_looks (.cons (.var 8) (.cons (.var 6) (.cons (.var 7) (.cons (.lit .non) .nil)))))) (.lit (.str (Str.ofString "walk")))) (.seq (.ret (.lit (.bl false))) .skip) .skip) .skip))) (l := oddW r) (S := S) 7 [a0, a1, a2, a3, a4, a5, some (mkWd r b l), a7, some (mkW a b0 c d e f g)] (by simp) (fun t ht u => by
    obtain ⟨h1, h2⟩ := oddW_ok hw.1 t ht
    have g1 := fun S => go_with_ex (n + 5) r b l hw t .non S h1 h2
    have g2 := fun S => wrong_looks_ex (n + 5) a b0 c d e f g hG r b l hw t .non S h1 h2
    simp [prg_lam, lams, g1, g2, pick, strN])
  refine ⟨u, for_eq (l := oddW r) (S1 := S) ?_ h⟩
  simp [line, m0, zeros101, oddW]
theorem odd2 (n : Nat) (a0 a1 a2 a3 a4 a5 a7 a8 : Option T) (r b l : Int) (hw : WdOk r b l) (S : Sto) :
    ∃ u, evS (evO prg (n + 12)) (.for_ (.nm 7) (.sq (.lst false (.cons (.lit .non) (.cons (.lst false (.cons (.lit (.int 0)) .nil)) (.cons (.tup (.cons (.lit (.bl true)) .nil)) (.cons (.op false .Mult (.tup (.cons (.lit (.int 0)) .nil)) (.lit (.int 101))) .nil)))))) (.seq (.iff (.cmp .NotEq (.lam 0 (.callL 21 (.cons (.var 6) (.cons (.tup (.cons (.lit (.int 0)) .nil)) (.cons (.var 7) .nil))))) (.lit (.str (Str.ofString "looks")))) (.seq (.ret (.lit (.bl false))) .skip) .skip) .skip)) [a0, a1, a2, a3, a4, a5, some (mkWd r b l), a7, a8] S = some (.nx [a0, a1, a2, a3, a4, a5, some (mkWd r b l), u, a8] S) := by
  obtain ⟨u, h⟩ := for_odd (E := evO prg (n + 12)) (b := (.seq (.iff (.cmp .NotEq (.lam 0 (.callL i_go_with (.cons (.var 6) (.cons (.tup (.cons (.lit (.int 0)) .nil)) (.cons (.var 7) .nil))))) (.lit (.str (Str.ofString "looks")))) (.seq (.ret (.lit (.bl false))) .skip) .skip) .skip)) (l := oddL) (S := S) 7 [a0, a1, a2, a3, a4, a5, some (mkWd r b l), a7, a8] (by simp) (fun t ht u => by
    obtain ⟨h1, h2⟩ := oddL_ok t ht
    have g1 := fun S => go_with_ex2 (n + 5) r b l hw [0] (by simp) (by intro i hi; simp at hi; subst hi; exact ⟨by decide, by decide⟩) trivial t S h1 h2
    have g1 : ∀ S, runO prg (n + 10) i_go_with [mkWd r b l, .tup [.int 0], t] S = some (.ex 3 none S) := g1
    simp [prg_lam, lams, g1, pick, strN, line])
  refine ⟨u, for_eq (l := oddL) (S1 := S) ?_ h⟩
  simp [line, zeros101, oddL]
theorem odd3 (n : Nat) (a0 a1 a2 a3 a4 a5 a7 a8 : Option T) (r b l : Int) (hw : WdOk r b l) (S : Sto) :
    ∃ u, evS (evO prg (n + 12)) (.for_ (.nm 7) (.sq (.lst false (.cons (.lit .non) (.cons (.neg (.lit (.int 1))) (.cons (.lit (.int 2)) (.cons (.lit (.bl true)) .nil)))))) (.seq (.iff (.cmp .NotEq (.lam 0 (.callL 23 (.cons (.var 6) (.cons (.tup (.cons (.lit (.int 0)) (.cons (.lit (.int 0)) .nil))) (.cons (.var 7) .nil))))) (.lit (.str (Str.ofString "index")))) (.seq (.ret (.lit (.bl false))) .skip) .skip) .skip)) [a0, a1, a2, a3, a4, a5, some (mkWd r b l), a7, a8] S = some (.nx [a0, a1, a2, a3, a4, a5, some (mkWd r b l), u, a8] S) := by
  obtain ⟨u, h⟩ := for_odd (E := evO prg (n + 12)) (b := (.seq (.iff (.cmp .NotEq (.lam 0 (.callL i_places_told (.cons (.var 6) (.cons (.tup (.cons (.lit (.int 0)) (.cons (.lit (.int 0)) .nil))) (.cons (.var 7) .nil))))) (.lit (.str (Str.ofString "index")))) (.seq (.ret (.lit (.bl false))) .skip) .skip) .skip)) (l := oddI) (S := S) 7 [a0, a1, a2, a3, a4, a5, some (mkWd r b l), a7, a8] (by simp) (fun t ht u => by
    obtain ⟨h1, h2⟩ := oddI_ok t ht
    have g1 := fun S => places_ex (n + 5) r b l hw [some 0, some 0] (by simp) (by intro k hk i hi; simp at hk; subst hk; cases hi; exact ⟨by decide, by decide⟩) t S h1 h2
    have g1 : ∀ S, runO prg (n + 10) i_places_told [mkWd r b l, .tup [.int 0, .int 0], t] S = some (.ex 5 none S) := g1
    simp [prg_lam, lams, g1, pick, strN, line])
  refine ⟨u, for_eq (l := oddI) (S1 := S) ?_ h⟩
  simp [line, oddI]
end Fw

namespace Fw
open PySem L2 PyProof.Rows
theorem inner_turn (n k : Nat) (ns : List Int) (x : T) (ρ : Rho) (S : Sto) (h : InnS ns k ρ S) : ∃ ρ' S', frT (evO prg (n + 12)) (.nm 4) lawIn x ρ S = some (.nx ρ' S') ∧ InnS ns k ρ' S' := by
  obtain ⟨tn, cl, a, b, d, e, f, g, hh, rfl⟩ := h
  obtain ⟨p1, p2, p3, p4, p5, p6, p7, S1, e1, wok, w1⟩ := law_watcher_ok (n + 9) k S 6 tn (by decide) (by decide)
  obtain ⟨q1, q2, q3, S2, e2, wdok, _, w2⟩ := law_world_ok (n + 9) k S1 w1.tn
  have cl2 := (cl.tw w1).tw w2
  obtain ⟨S3, e3, w3⟩ := trip_right_ok (n + 6) k S2 w2.tn cl2 6 p1 p2 p3 p4 p5 p6 p7 wok (by decide) q1 q2 q3 wdok
  have hG := wok.good (by decide)
  obtain ⟨u1, o1⟩ := odd1 n (some (.scr ns)) a b (some (.box k)) (some x) e g 6 p1 p2 p3 p4 p5 p6 p7 hG q1 q2 q3 wdok S3
  obtain ⟨u2, o2⟩ := odd2 n (some (.scr ns)) a b (some (.box k)) (some x) e u1 (some (mkW p1 p2 p3 p4 p5 p6 p7)) q1 q2 q3 wdok S3
  obtain ⟨u3, o3⟩ := odd3 n (some (.scr ns)) a b (some (.box k)) (some x) e u2 (some (mkW p1 p2 p3 p4 p5 p6 p7)) q1 q2 q3 wdok S3
  refine ⟨_, S3, ?_, ((w1.trans w2).trans w3).tn, ((cl.tw w1).tw w2).tw w3, a, b, some x, e, some (mkWd q1 q2 q3), u3, some (mkW p1 p2 p3 p4 p5 p6 p7), rfl⟩
  rw [frT_nm]
  simp only [List.set_cons_succ, List.set_cons_zero]
  unfold lawIn fd_law
  refine (seq_nx (ρ' := [some (.scr ns), a, b, some (.box k), some x, e, some (mkWd q1 q2 q3), g, some (mkW p1 p2 p3 p4 p5 p6 p7)]) (S' := S2) (by simp [e1, e2, line, bindT])).trans ?_
  refine (seq_nx (ρ' := [some (.scr ns), a, b, some (.box k), some x, e, some (mkWd q1 q2 q3), g, some (mkW p1 p2 p3 p4 p5 p6 p7)]) (S' := S3) (by simp [e3])).trans ?_
  refine (seq_nx o1).trans ?_
  refine (seq_nx o2).trans ?_
  exact seq_one o3
def OutI (ns : List Int) (ρ : Rho) (S : Sto) : Prop := Cl S ∧ ∃ b c d e f g h i, ρ = [some (.scr ns), b, c, d, e, f, g, h, i]
theorem outer_turn (n : Nat) (ns : List Int) (x : Nat) (ρ : Rho) (S : Sto) (h : OutI ns ρ S) : ∃ ρ' S', frT (evO prg (n + 12)) (.nm 1) (.seq (.asg (.nm 3) (.call i_law_tun (.cons (.var 0) (.cons (.var 1) .nil)))) (.seq (.for_ (.nm 4) (.rg1 (.lit (.int 2))) lawIn) .skip)) (.int x) ρ S = some (.nx ρ' S') ∧ OutI ns ρ' S' := by
  obtain ⟨cl, b, c, d, e, f, g, hh, i, rfl⟩ := h
  obtain ⟨ob, e1, p, q, rfl, p0, q0, q1⟩ := tun_ok (n + 11) x S ns
  have tn : Tn (S ++ [.lst [.int p, .int q]]) S.length := ⟨p, q, by simp, p0, q0, q1⟩
  have cl1 : Cl (S ++ [.lst [.int p, .int q]]) := cl.app rfl
  obtain ⟨ρ', S', e2, h1, h2, a', b', d', e', f', g', h', rfl⟩ := forL_inv (g := frT (evO prg (n + 12)) (.nm 4) lawIn) (InnS ns S.length) (l := rngT 0 2)
    (fun y _ ρ0 S0 hi => by
      obtain ⟨ρ', S', e, i⟩ := inner_turn n S.length ns y ρ0 S0 hi
      exact ⟨ρ', S', .inl e, i⟩) (ρ := [some (.scr ns), some (.int x), c, some (.box S.length), e, f, g, hh, i]) (S := S ++ [.lst [.int p, .int q]]) ⟨tn, cl1, _, _, _, _, _, _, _, rfl⟩
  refine ⟨[some (.scr ns), a', b', some (.box S.length), d', e', f', g', h'], S', ?_, h2, _, _, _, _, _, _, _, _, rfl⟩
  rw [frT_nm]
  simp only [List.set_cons_succ, List.set_cons_zero]
  refine (seq_nx (ρ' := [some (.scr ns), some (.int x), c, some (.box S.length), e, f, g, hh, i]) (S' := S ++ [.lst [.int p, .int q]]) (by simp [bindT, e1])).trans ?_
  exact seq_one (for_eq (rg1_eq (k := 2) rfl (by decide)) e2)
/-! written ones -/
def kk : Str := Str.ofString "keep"
theorem wd2 : WdOk 2 1 1 := ⟨by decide, by decide, by decide, by decide, by decide, by decide⟩
theorem wd1 : WdOk 1 0 0 := ⟨by decide, by decide, by decide, by decide, by decide, by decide⟩
theorem pIn {ws : List Int} (h : ws.all (fun i => decide (-100 ≤ i) && decide (i ≤ 100)) = true) : ∀ i ∈ ws, placeIn i := fun i hi => by
  have := List.all_eq_true.mp h i hi
  simp only [Bool.and_eq_true, decide_eq_true_eq] at this
  exact ⟨by omega, by omega⟩
theorem lIn {ls : List (Option Int)} (h : ls.all (fun k => match k with | none => true | some i => decide (-100 ≤ i) && decide (i ≤ 100)) = true) : ∀ k ∈ ls, lookIn k := fun k hk i hi => by
  subst hi
  have := List.all_eq_true.mp h _ hk
  simp only [Bool.and_eq_true, decide_eq_true_eq] at this
  exact ⟨by omega, by omega⟩
theorem gw (n : Nat) (ws : List Int) (ls : List (Option Int)) (S : Sto) (hl : ws.length = ls.length) (h1 : ws.length ≤ 100) (hw : ws.all (fun i => decide (-100 ≤ i) && decide (i ≤ 100)) = true) (hs : stepsOk 2 ws) (hk : ls.all (fun k => match k with | none => true | some i => decide (-100 ≤ i) && decide (i ≤ 100)) = true) (b : Bool) (hb : goB 1 1 ws ls = b) :
    runO prg (n + 12) i_go_with [.tup [.int 2, .int 1, .int 1], .tup (ws.map T.int), .tup (ls.map lookT)] S = some (.ok (.bl b) S) := by
  have := go_with_ok (n + 7) 2 1 1 wd2 ws ls S hl h1 (pIn hw) hs (lIn hk)
  rw [hb] at this; exact this
theorem pt (n : Nat) (r b l : Int) (hwd : WdOk r b l) (ls : List (Option Int)) (i : Nat) (S : Sto) (hi : i < ls.length) (h1 : ls.length ≤ 100) (hk : ls.all (fun k => match k with | none => true | some i => decide (-100 ≤ i) && decide (i ≤ 100)) = true) (t : T) (hb : plT r b l ls i = t) :
    runO prg (n + 12) i_places_told [.tup [.int r, .int b, .int l], .tup (ls.map lookT), .int (i : Nat)] S = some (.ok t S) := by
  have := places_told_ok (n + 7) r b l hwd ls h1 (lIn hk) i hi S
  rw [hb] at this; exact this
theorem stepsOk2 : stepsOk 2 [0, 2, 1] ∧ stepsOk 2 [0, 2] ∧ stepsOk 2 [0, 1] ∧ stepsOk 1 [1, 2, 3] := by
  simp [stepsOk, absI]
theorem end_ok (n : Nat) (ns : List Int) (ρ : Rho) (S : Sto) (h : OutI ns ρ S) : ∃ S', fin false 0 (evS (evO prg (n + 12)) lawEnd ρ S) = some (.ok (.bl true) S') := by
  obtain ⟨cl, b, c, d, e, f, g, hh, i, rfl⟩ := h
  have hWp : WGood 0 20 0 0 1 1 (Str.ofString "keep") := ⟨by decide, by decide, by decide, by decide, by decide, by decide, by decide, by decide, by decide, by decide, by decide, .inl rfl⟩
  have hWs : WGood 0 20 2 1 2 2 (Str.ofString "keep") := ⟨by decide, by decide, by decide, by decide, by decide, by decide, by decide, by decide, by decide, by decide, by decide, .inl rfl⟩
  obtain ⟨s1, s2, s3, s4⟩ := stepsOk2
  have x1 := fun S => wrong_looks_ex2 (n + 5) 0 20 0 0 1 1 _ hWp 2 1 1 wd2 [0, 1] [some 0] S (by decide) (pIn rfl) s3 (by decide) (lIn rfl) (by decide)
  have x1 : ∀ S, runO prg (n + 10) i_wrong_looks [.tup [.int 0, .int 20, .int 0, .int 0, .int 1, .int 1, .str (Str.ofString "keep")], .tup [.int 2, .int 1, .int 1], .tup [.int 0, .int 1], .tup [.int 0]] S = some (.ex 3 none S) := x1
  have g1 : ∀ S, runO prg (n + 12) i_go_with [.tup [.int 2, .int 1, .int 1], .tup [.int 0, .int 2, .int 1], .tup [.int 1, .non, .int 0]] S = some (.ok (.bl true) S) := fun S => gw n [0, 2, 1] [some 1, none, some 0] S rfl (by decide) rfl s1 rfl true rfl
  have g2 : ∀ S, runO prg (n + 12) i_go_with [.tup [.int 2, .int 1, .int 1], .tup [.int 0, .int 2, .int 1], .tup [.non, .non, .int 0]] S = some (.ok (.bl false) S) := fun S => gw n [0, 2, 1] [none, none, some 0] S rfl (by decide) rfl s1 rfl false rfl
  have g3 : ∀ S, runO prg (n + 12) i_go_with [.tup [.int 2, .int 1, .int 1], .tup [.int 0, .int 2], .tup [.int 2, .int 2]] S = some (.ok (.bl false) S) := fun S => gw n [0, 2] [some 2, some 2] S rfl (by decide) rfl s2 rfl false rfl
  have x2 := fun S => wrong_looks_ok (n + 7) 0 20 2 1 2 2 _ hWs 1 0 0 wd1 [1, 2, 3] [some 1, some 2, some 3] S rfl (by decide) (pIn rfl) s4 (lIn rfl) rfl
  have x2 : ∀ S, runO prg (n + 12) i_wrong_looks [.tup [.int 0, .int 20, .int 2, .int 1, .int 2, .int 2, .str (Str.ofString "keep")], .tup [.int 1, .int 0, .int 0], .tup [.int 1, .int 2, .int 3], .tup [.int 1, .int 2, .int 3]] S = some (.ok (.int 2) S) := fun S => (x2 S).trans rfl
  have p1 : ∀ S, runO prg (n + 12) i_places_told [.tup [.int 2, .int 1, .int 1], .tup [.int 5, .non, .int 8], .int 0] S = some (.ok (.tup [.int 4, .int 6]) S) := fun S => pt n 2 1 1 wd2 [some 5, none, some 8] 0 S (by decide) (by decide) rfl _ rfl
  have p2 : ∀ S, runO prg (n + 12) i_places_told [.tup [.int 2, .int 1, .int 1], .tup [.int 5, .non, .int 8], .int 1] S = some (.ok (.tup [.int 5, .int 8]) S) := fun S => pt n 2 1 1 wd2 [some 5, none, some 8] 1 S (by decide) (by decide) rfl _ rfl
  have p3 : ∀ S, runO prg (n + 12) i_places_told [.tup [.int 2, .int 1, .int 1], .tup [.int 0, .int 9], .int 0] S = some (.ok .non S) := fun S => pt n 2 1 1 wd2 [some 0, some 9] 0 S (by decide) (by decide) rfl _ rfl
  have p4 : ∀ S, runO prg (n + 12) i_places_told [.tup [.int 2, .int 1, .int 1], .tup [.non, .int 4], .int 0] S = some (.ok (.tup [.int 1, .int 7]) S) := fun S => pt n 2 1 1 wd2 [none, some 4] 0 S (by decide) (by decide) rfl _ rfl
  have p5 : ∀ S, runO prg (n + 12) i_places_told [.tup [.int 2, .int 1, .int 1], .tup [.non], .int 0] S = some (.ok (.tup [.non, .non]) S) := fun S => pt n 2 1 1 wd2 [none] 0 S (by decide) (by decide) rfl _ rfl
  have p6 : ∀ S, runO prg (n + 12) i_places_told [.tup [.int 1, .int 0, .int 0], .tup [.int 4, .int 5], .int 1] S = some (.ok (.tup [.int 5, .int 5]) S) := fun S => pt n 1 0 0 wd1 [some 4, some 5] 1 S (by decide) (by decide) rfl _ rfl
  have p7 : ∀ S, runO prg (n + 12) i_places_told [.tup [.int 1, .int 0, .int 0], .tup [.non, .int 5], .int 1] S = some (.ok .non S) := fun S => pt n 1 0 0 wd1 [none, some 5] 1 S (by decide) (by decide) rfl _ rfl
  have c1 : ∀ S, cop S .NotEq (.lst [.bl true, .bl false, .bl false]) (.lst [.bl true, .bl false, .bl false]) = some false := fun _ => rfl
  have c2 : ∀ S, cop S .NotEq (.lst [.tup [.int 4, .int 6], .tup [.int 5, .int 8], .non, .tup [.int 1, .int 7]]) (.lst [.tup [.int 4, .int 6], .tup [.int 5, .int 8], .non, .tup [.int 1, .int 7]]) = some false := fun _ => rfl
  have c3 : ∀ S, cop S .NotEq (.tup [.non, .non]) (.tup [.non, .non]) = some false := fun _ => rfl
  have c4 : ∀ S, cop S .Eq (.tup [.int 5, .int 5]) (.tup [.int 5, .int 5]) = some true := fun _ => rfl
  have c5 : ∀ S, cop S .Is .non .non = some true := fun _ => rfl
  have ff : fin1 0 (.bl true) S = .ok (.bl true) [] := fin1_cut (S := []) (X := S) rfl rfl (by intro ob ho; simp at ho)
  refine ⟨[], ?_⟩
  suffices H : ∃ r, r = .bl true ∧ evS (evO prg (n + 12)) lawEnd [some (.scr ns), b, c, d, e, f, g, hh, i] S = some (.rt r S) by
    obtain ⟨r, rfl, H⟩ := H
    rw [H, fin_rt, ff]
  refine ⟨_, rfl, ?_⟩
  unfold lawEnd fd_law
  simp [bindT, line, prg_lam, lams, x1, pick, strN, g1, g2, g3, bq_addL, c1, x2, p1, p2, p3, p4, p5, p6, p7, c2, c3, c4, c5]
theorem init_law (ns : List Int) : init fd_law [.scr ns] = [some (.scr ns), none, none, none, none, none, none, none, none] := rfl
theorem law_runs_n (n : Nat) (ns : List Int) : ∃ S, runO prg (n + 13) i_law [.scr ns] [] = some (.ok (.bl true) S) := by
  rw [run_succ prg (n + 12) i_law _ [] fd_law rfl rfl, law_split, init_law]
  obtain ⟨ρ', S', e, i⟩ := forL_inv (g := frT (evO prg (n + 12)) (.nm 1) (.seq (.asg (.nm 3) (.call i_law_tun (.cons (.var 0) (.cons (.var 1) .nil)))) (.seq (.for_ (.nm 4) (.rg1 (.lit (.int 2))) lawIn) .skip))) (OutI ns) (l := rngT 0 (max 4 (min 12 (ns.length + 3))))
    (fun y hy ρ0 S0 hi => by
      obtain ⟨k, _, rfl⟩ := rngT_mem hy
      obtain ⟨ρ', S', e, i⟩ := outer_turn n ns k ρ0 S0 hi
      rw [Int.zero_add]
      exact ⟨ρ', S', .inl e, i⟩) (ρ := [some (.scr ns), none, none, none, none, none, none, none, none]) (S := []) ⟨by intro ob ho; simp at ho, _, _, _, _, _, _, _, _, rfl⟩
  obtain ⟨S2, e2⟩ := end_ok n ns ρ' S' i
  refine ⟨S2, ?_⟩
  have mm : evE (evO prg (n + 12)) (.blt false .max (.cons (.lit (.int 4)) (.cons (.blt false .min (.cons (.lit (.int 12)) (.cons (.op false .Add (.blt false .len (.cons (.var 0) .nil)) (.lit (.int 3))) .nil))) .nil))) [some (.scr ns), none, none, none, none, none, none, none, none] [] = some (.ok (.int ((max 4 (min 12 (ns.length + 3)) : Nat) : Int)) []) := by
    have mm : (if (if (ns.length : Int) + 3 < 12 then (ns.length : Int) + 3 else 12) > 4 then (if (ns.length : Int) + 3 < 12 then (ns.length : Int) + 3 else 12) else 4) = ((max 4 (min 12 (ns.length + 3)) : Nat) : Int) := by
      split <;> split <;> omega
    rw [← mm]
    simp
  rw [show fd_law.keep = false from rfl, seq_nx (for_eq (rg1_eq mm (by omega)) e)]
  exact e2
theorem law_runs (ns : List Int) (h : ns.length ≤ 63) : ∃ S, run prg 40 i_law [.scr ns] [] = some (.ok (.bl true) S) := by
  have := law_runs_n 27 ns
  rw [runO_eq] at this; exact this
end Fw

namespace Fw
open PySem L2 PyProof.Rows
/-! ## what the top has left -/
theorem all_mk {l : PySem.W.OpenLaw} {w : World} {K : PySem.W.Frag} {h : Heap} {mg : Str → Option Value} {fa : Addr} (X : K.In h) (G : h.Ns mainGlobals mg) (hfa : mg "law" = some (.ref fa))
    {oc0 kV0 dc0 pm0 cd0 ct0 : Value} {od0 an0 : Option Addr} {sl0 : Array (Option Value)} {f0 : Addr} {oc1 kV1 dc1 pm1 cd1 ct1 : Value} {od1 an1 : Option Addr} {sl1 : Array (Option Value)} {f1 : Addr} {oc2 kV2 dc2 pm2 cd2 ct2 : Value} {od2 an2 : Option Addr} {sl2 : Array (Option Value)} {f2 : Addr} {oc3 kV3 dc3 pm3 cd3 ct3 : Value} {od3 an3 : Option Addr} {sl3 : Array (Option Value)} {f3 : Addr} {oc4 kV4 dc4 pm4 cd4 ct4 : Value} {od4 an4 : Option Addr} {sl4 : Array (Option Value)} {f4 : Addr} {oc5 kV5 dc5 pm5 cd5 ct5 : Value} {od5 an5 : Option Addr} {sl5 : Array (Option Value)} {f5 : Addr} {oc6 kV6 dc6 pm6 cd6 ct6 : Value} {od6 an6 : Option Addr} {sl6 : Array (Option Value)} {f6 : Addr} {oc7 kV7 dc7 pm7 cd7 ct7 : Value} {od7 an7 : Option Addr} {sl7 : Array (Option Value)} {f7 : Addr} {oc8 kV8 dc8 pm8 cd8 ct8 : Value} {od8 an8 : Option Addr} {sl8 : Array (Option Value)} {f8 : Addr} {oc9 kV9 dc9 pm9 cd9 ct9 : Value} {od9 an9 : Option Addr} {sl9 : Array (Option Value)} {f9 : Addr} {oc10 kV10 dc10 pm10 cd10 ct10 : Value} {od10 an10 : Option Addr} {sl10 : Array (Option Value)} {f10 : Addr} {oc11 kV11 dc11 pm11 cd11 ct11 : Value} {od11 an11 : Option Addr} {sl11 : Array (Option Value)} {f11 : Addr} {oc12 kV12 dc12 pm12 cd12 ct12 : Value} {od12 an12 : Option Addr} {sl12 : Array (Option Value)} {f12 : Addr} {oc13 kV13 dc13 pm13 cd13 ct13 : Value} {od13 an13 : Option Addr} {sl13 : Array (Option Value)} {f13 : Addr} {oc14 kV14 dc14 pm14 cd14 ct14 : Value} {od14 an14 : Option Addr} {sl14 : Array (Option Value)} {f14 : Addr} {oc15 kV15 dc15 pm15 cd15 ct15 : Value} {od15 an15 : Option Addr} {sl15 : Array (Option Value)} {f15 : Addr} {oc16 kV16 dc16 pm16 cd16 ct16 : Value} {od16 an16 : Option Addr} {sl16 : Array (Option Value)} {f16 : Addr} {oc17 kV17 dc17 pm17 cd17 ct17 : Value} {od17 an17 : Option Addr} {sl17 : Array (Option Value)} {f17 : Addr} {oc18 kV18 dc18 pm18 cd18 ct18 : Value} {od18 an18 : Option Addr} {sl18 : Array (Option Value)} {f18 : Addr} {oc19 kV19 dc19 pm19 cd19 ct19 : Value} {od19 an19 : Option Addr} {sl19 : Array (Option Value)} {f19 : Addr} {oc20 kV20 dc20 pm20 cd20 ct20 : Value} {od20 an20 : Option Addr} {sl20 : Array (Option Value)} {f20 : Addr} {oc21 kV21 dc21 pm21 cd21 ct21 : Value} {od21 an21 : Option Addr} {sl21 : Array (Option Value)} {f21 : Addr} {oc22 kV22 dc22 pm22 cd22 ct22 : Value} {od22 an22 : Option Addr} {sl22 : Array (Option Value)} {f22 : Addr} {oc23 kV23 dc23 pm23 cd23 ct23 : Value} {od23 an23 : Option Addr} {sl23 : Array (Option Value)} {f23 : Addr} {oc24 kV24 dc24 pm24 cd24 ct24 : Value} {od24 an24 : Option Addr} {sl24 : Array (Option Value)} {f24 : Addr} {oc25 kV25 dc25 pm25 cd25 ct25 : Value} {od25 an25 : Option Addr} {sl25 : Array (Option Value)} {f25 : Addr} {oc26 kV26 dc26 pm26 cd26 ct26 : Value} {od26 an26 : Option Addr} {sl26 : Array (Option Value)} {f26 : Addr} {oc27 kV27 dc27 pm27 cd27 ct27 : Value} {od27 an27 : Option Addr} {sl27 : Array (Option Value)} {f27 : Addr} {oc28 kV28 dc28 pm28 cd28 ct28 : Value} {od28 an28 : Option Addr} {sl28 : Array (Option Value)} {f28 : Addr} {oc29 kV29 dc29 pm29 cd29 ct29 : Value} {od29 an29 : Option Addr} {sl29 : Array (Option Value)} {f29 : Addr} {oc30 kV30 dc30 pm30 cd30 ct30 : Value} {od30 an30 : Option Addr} {sl30 : Array (Option Value)} {f30 : Addr} {oc31 kV31 dc31 pm31 cd31 ct31 : Value} {od31 an31 : Option Addr} {sl31 : Array (Option Value)} {f31 : Addr} {oc32 kV32 dc32 pm32 cd32 ct32 : Value} {od32 an32 : Option Addr} {sl32 : Array (Option Value)} {f32 : Addr} {oc33 kV33 dc33 pm33 cd33 ct33 : Value} {od33 an33 : Option Addr} {sl33 : Array (Option Value)} {f33 : Addr} {oc34 kV34 dc34 pm34 cd34 ct34 : Value} {od34 an34 : Option Addr} {sl34 : Array (Option Value)} {f34 : Addr} {oc35 kV35 dc35 pm35 cd35 ct35 : Value} {od35 an35 : Option Addr} {sl35 : Array (Option Value)} {f35 : Addr} {oc36 kV36 dc36 pm36 cd36 ct36 : Value} {od36 an36 : Option Addr} {sl36 : Array (Option Value)} {f36 : Addr} {oc37 kV37 dc37 pm37 cd37 ct37 : Value} {od37 an37 : Option Addr} {sl37 : Array (Option Value)} {f37 : Addr} {e0 : Addr} {e1 : Addr} {e2 : Addr} {e3 : Addr} {e4 : Addr} {e5 : Addr} {tk0 : Tok} {Oc0 KV0 Dc0 Pm0 Cd0 Ct0 : Value} {Od0 An0 : Option Addr} {Sl0 : Array (Option Value)} {g0 : Addr} {tc37 tp37 : Addr}
    (a0 : PySem.W.nsIn K mainGlobals "is_from" = some (some (.ref f0))) (l0 : K.lookup f0 = some ⟨oc0, od0, .func (PySem.W.fnOf "is_from" "is_from" (defArgs (top 9)) (defBody (top 9)) (defScope (top 9)) .none kV0 dc0 pm0 an0 cd0 ct0), sl0⟩) (c0 : PySem.W.codeIn K cd0 "is_from" = true) (k0 : PySem.W.keepIn K (.ref f0) = true)
    (a1 : PySem.W.nsIn K mainGlobals "is_good_watcher" = some (some (.ref f1))) (l1 : K.lookup f1 = some ⟨oc1, od1, .func (PySem.W.fnOf "is_good_watcher" "is_good_watcher" (defArgs (top 10)) (defBody (top 10)) (defScope (top 10)) .none kV1 dc1 pm1 an1 cd1 ct1), sl1⟩) (c1 : PySem.W.codeIn K cd1 "is_good_watcher" = true) (k1 : PySem.W.keepIn K (.ref f1) = true)
    (a2 : PySem.W.nsIn K mainGlobals "is_good_world" = some (some (.ref f2))) (l2 : K.lookup f2 = some ⟨oc2, od2, .func (PySem.W.fnOf "is_good_world" "is_good_world" (defArgs (top 11)) (defBody (top 11)) (defScope (top 11)) .none kV2 dc2 pm2 an2 cd2 ct2), sl2⟩) (c2 : PySem.W.codeIn K cd2 "is_good_world" = true) (k2 : PySem.W.keepIn K (.ref f2) = true)
    (a3 : PySem.W.nsIn K mainGlobals "is_look" = some (some (.ref f3))) (l3 : K.lookup f3 = some ⟨oc3, od3, .func (PySem.W.fnOf "is_look" "is_look" (defArgs (top 12)) (defBody (top 12)) (defScope (top 12)) .none kV3 dc3 pm3 an3 cd3 ct3), sl3⟩) (c3 : PySem.W.codeIn K cd3 "is_look" = true) (k3 : PySem.W.keepIn K (.ref f3) = true)
    (a4 : PySem.W.nsIn K mainGlobals "are_looks" = some (some (.ref f4))) (l4 : K.lookup f4 = some ⟨oc4, od4, .func (PySem.W.fnOf "are_looks" "are_looks" (defArgs (top 13)) (defBody (top 13)) (defScope (top 13)) .none kV4 dc4 pm4 an4 cd4 ct4), sl4⟩) (c4 : PySem.W.codeIn K cd4 "are_looks" = true) (k4 : PySem.W.keepIn K (.ref f4) = true)
    (a5 : PySem.W.nsIn K mainGlobals "depth_of" = some (some (.ref f5))) (l5 : K.lookup f5 = some ⟨oc5, od5, .func (PySem.W.fnOf "depth_of" "depth_of" (defArgs (top 14)) (defBody (top 14)) (defScope (top 14)) .none kV5 dc5 pm5 an5 cd5 ct5), sl5⟩) (c5 : PySem.W.codeIn K cd5 "depth_of" = true) (k5 : PySem.W.keepIn K (.ref f5) = true)
    (a6 : PySem.W.nsIn K mainGlobals "word_at" = some (some (.ref f6))) (l6 : K.lookup f6 = some ⟨oc6, od6, .func (PySem.W.fnOf "word_at" "word_at" (defArgs (top 15)) (defBody (top 15)) (defScope (top 15)) .none kV6 dc6 pm6 an6 cd6 ct6), sl6⟩) (c6 : PySem.W.codeIn K cd6 "word_at" = true) (k6 : PySem.W.keepIn K (.ref f6) = true)
    (a7 : PySem.W.nsIn K mainGlobals "look_word" = some (some (.ref f7))) (l7 : K.lookup f7 = some ⟨oc7, od7, .func (PySem.W.fnOf "look_word" "look_word" (defArgs (top 16)) (defBody (top 16)) (defScope (top 16)) .none kV7 dc7 pm7 an7 cd7 ct7), sl7⟩) (c7 : PySem.W.codeIn K cd7 "look_word" = true) (k7 : PySem.W.keepIn K (.ref f7) = true)
    (a8 : PySem.W.nsIn K mainGlobals "stepped" = some (some (.ref f8))) (l8 : K.lookup f8 = some ⟨oc8, od8, .func (PySem.W.fnOf "stepped" "stepped" (defArgs (top 17)) (defBody (top 17)) (defScope (top 17)) .none kV8 dc8 pm8 an8 cd8 ct8), sl8⟩) (c8 : PySem.W.codeIn K cd8 "stepped" = true) (k8 : PySem.W.keepIn K (.ref f8) = true)
    (a9 : PySem.W.nsIn K mainGlobals "need_watcher" = some (some (.ref f9))) (l9 : K.lookup f9 = some ⟨oc9, od9, .func (PySem.W.fnOf "need_watcher" "need_watcher" (defArgs (top 18)) (defBody (top 18)) (defScope (top 18)) .none kV9 dc9 pm9 an9 cd9 ct9), sl9⟩) (c9 : PySem.W.codeIn K cd9 "need_watcher" = true) (k9 : PySem.W.keepIn K (.ref f9) = true)
    (a10 : PySem.W.nsIn K mainGlobals "need_world" = some (some (.ref f10))) (l10 : K.lookup f10 = some ⟨oc10, od10, .func (PySem.W.fnOf "need_world" "need_world" (defArgs (top 19)) (defBody (top 19)) (defScope (top 19)) .none kV10 dc10 pm10 an10 cd10 ct10), sl10⟩) (c10 : PySem.W.codeIn K cd10 "need_world" = true) (k10 : PySem.W.keepIn K (.ref f10) = true)
    (a11 : PySem.W.nsIn K mainGlobals "need_looks" = some (some (.ref f11))) (l11 : K.lookup f11 = some ⟨oc11, od11, .func (PySem.W.fnOf "need_looks" "need_looks" (defArgs (top 20)) (defBody (top 20)) (defScope (top 20)) .none kV11 dc11 pm11 an11 cd11 ct11), sl11⟩) (c11 : PySem.W.codeIn K cd11 "need_looks" = true) (k11 : PySem.W.keepIn K (.ref f11) = true)
    (a12 : PySem.W.nsIn K mainGlobals "is_good_walk" = some (some (.ref f12))) (l12 : K.lookup f12 = some ⟨oc12, od12, .func (PySem.W.fnOf "is_good_walk" "is_good_walk" (defArgs (top 22)) (defBody (top 22)) (defScope (top 22)) .none kV12 dc12 pm12 an12 cd12 ct12), sl12⟩) (c12 : PySem.W.codeIn K cd12 "is_good_walk" = true) (k12 : PySem.W.keepIn K (.ref f12) = true)
    (a13 : PySem.W.nsIn K mainGlobals "lost_runs" = some (some (.ref f13))) (l13 : K.lookup f13 = some ⟨oc13, od13, .func (PySem.W.fnOf "lost_runs" "lost_runs" (defArgs (top 23)) (defBody (top 23)) (defScope (top 23)) .none kV13 dc13 pm13 an13 cd13 ct13), sl13⟩) (c13 : PySem.W.codeIn K cd13 "lost_runs" = true) (k13 : PySem.W.keepIn K (.ref f13) = true)
    (a14 : PySem.W.nsIn K mainGlobals "goes" = some (some (.ref f14))) (l14 : K.lookup f14 = some ⟨oc14, od14, .func (PySem.W.fnOf "goes" "goes" (defArgs (top 24)) (defBody (top 24)) (defScope (top 24)) .none kV14 dc14 pm14 an14 cd14 ct14), sl14⟩) (c14 : PySem.W.codeIn K cd14 "goes" = true) (k14 : PySem.W.keepIn K (.ref f14) = true)
    (a15 : PySem.W.nsIn K mainGlobals "wrongs" = some (some (.ref f15))) (l15 : K.lookup f15 = some ⟨oc15, od15, .func (PySem.W.fnOf "wrongs" "wrongs" (defArgs (top 25)) (defBody (top 25)) (defScope (top 25)) .none kV15 dc15 pm15 an15 cd15 ct15), sl15⟩) (c15 : PySem.W.codeIn K cd15 "wrongs" = true) (k15 : PySem.W.keepIn K (.ref f15) = true)
    (a16 : PySem.W.nsIn K mainGlobals "need_walk" = some (some (.ref f16))) (l16 : K.lookup f16 = some ⟨oc16, od16, .func (PySem.W.fnOf "need_walk" "need_walk" (defArgs (top 26)) (defBody (top 26)) (defScope (top 26)) .none kV16 dc16 pm16 an16 cd16 ct16), sl16⟩) (c16 : PySem.W.codeIn K cd16 "need_walk" = true) (k16 : PySem.W.keepIn K (.ref f16) = true)
    (a17 : PySem.W.nsIn K mainGlobals "moved_by" = some (some (.ref f17))) (l17 : K.lookup f17 = some ⟨oc17, od17, .func (PySem.W.fnOf "moved_by" "moved_by" (defArgs (top 27)) (defBody (top 27)) (defScope (top 27)) .none kV17 dc17 pm17 an17 cd17 ct17), sl17⟩) (c17 : PySem.W.codeIn K cd17 "moved_by" = true) (k17 : PySem.W.keepIn K (.ref f17) = true)
    (a18 : PySem.W.nsIn K mainGlobals "greater" = some (some (.ref f18))) (l18 : K.lookup f18 = some ⟨oc18, od18, .func (PySem.W.fnOf "greater" "greater" (defArgs (top 28)) (defBody (top 28)) (defScope (top 28)) .none kV18 dc18 pm18 an18 cd18 ct18), sl18⟩) (c18 : PySem.W.codeIn K cd18 "greater" = true) (k18 : PySem.W.keepIn K (.ref f18) = true)
    (a19 : PySem.W.nsIn K mainGlobals "lesser" = some (some (.ref f19))) (l19 : K.lookup f19 = some ⟨oc19, od19, .func (PySem.W.fnOf "lesser" "lesser" (defArgs (top 29)) (defBody (top 29)) (defScope (top 29)) .none kV19 dc19 pm19 an19 cd19 ct19), sl19⟩) (c19 : PySem.W.codeIn K cd19 "lesser" = true) (k19 : PySem.W.keepIn K (.ref f19) = true)
    (a20 : PySem.W.nsIn K mainGlobals "ranges" = some (some (.ref f20))) (l20 : K.lookup f20 = some ⟨oc20, od20, .func (PySem.W.fnOf "ranges" "ranges" (defArgs (top 30)) (defBody (top 30)) (defScope (top 30)) .none kV20 dc20 pm20 an20 cd20 ct20), sl20⟩) (c20 : PySem.W.codeIn K cd20 "ranges" = true) (k20 : PySem.W.keepIn K (.ref f20) = true)
    (a21 : PySem.W.nsIn K mainGlobals "go_with" = some (some (.ref f21))) (l21 : K.lookup f21 = some ⟨oc21, od21, .func (PySem.W.fnOf "go_with" "go_with" (defArgs (top 31)) (defBody (top 31)) (defScope (top 31)) .none kV21 dc21 pm21 an21 cd21 ct21), sl21⟩) (c21 : PySem.W.codeIn K cd21 "go_with" = true) (k21 : PySem.W.keepIn K (.ref f21) = true)
    (a22 : PySem.W.nsIn K mainGlobals "wrong_looks" = some (some (.ref f22))) (l22 : K.lookup f22 = some ⟨oc22, od22, .func (PySem.W.fnOf "wrong_looks" "wrong_looks" (defArgs (top 32)) (defBody (top 32)) (defScope (top 32)) .none kV22 dc22 pm22 an22 cd22 ct22), sl22⟩) (c22 : PySem.W.codeIn K cd22 "wrong_looks" = true) (k22 : PySem.W.keepIn K (.ref f22) = true)
    (a23 : PySem.W.nsIn K mainGlobals "places_told" = some (some (.ref f23))) (l23 : K.lookup f23 = some ⟨oc23, od23, .func (PySem.W.fnOf "places_told" "places_told" (defArgs (top 33)) (defBody (top 33)) (defScope (top 33)) .none kV23 dc23 pm23 an23 cd23 ct23), sl23⟩) (c23 : PySem.W.codeIn K cd23 "places_told" = true) (k23 : PySem.W.keepIn K (.ref f23) = true)
    (a24 : PySem.W.nsIn K mainGlobals "_law_tun" = some (some (.ref f24))) (l24 : K.lookup f24 = some ⟨oc24, od24, .func (PySem.W.fnOf "_law_tun" "_law_tun" (defArgs (top 35)) (defBody (top 35)) (defScope (top 35)) .none kV24 dc24 pm24 an24 cd24 ct24), sl24⟩) (c24 : PySem.W.codeIn K cd24 "_law_tun" = true) (k24 : PySem.W.keepIn K (.ref f24) = true)
    (a25 : PySem.W.nsIn K mainGlobals "_law_scoop" = some (some (.ref f25))) (l25 : K.lookup f25 = some ⟨oc25, od25, .func (PySem.W.fnOf "_law_scoop" "_law_scoop" (defArgs (top 36)) (defBody (top 36)) (defScope (top 36)) .none kV25 dc25 pm25 an25 cd25 ct25), sl25⟩) (c25 : PySem.W.codeIn K cd25 "_law_scoop" = true) (k25 : PySem.W.keepIn K (.ref f25) = true)
    (a26 : PySem.W.nsIn K mainGlobals "_law_any" = some (some (.ref f26))) (l26 : K.lookup f26 = some ⟨oc26, od26, .func (PySem.W.fnOf "_law_any" "_law_any" (defArgs (top 37)) (defBody (top 37)) (defScope (top 37)) .none kV26 dc26 pm26 an26 cd26 ct26), sl26⟩) (c26 : PySem.W.codeIn K cd26 "_law_any" = true) (k26 : PySem.W.keepIn K (.ref f26) = true)
    (a27 : PySem.W.nsIn K mainGlobals "_law_watcher" = some (some (.ref f27))) (l27 : K.lookup f27 = some ⟨oc27, od27, .func (PySem.W.fnOf "_law_watcher" "_law_watcher" (defArgs (top 38)) (defBody (top 38)) (defScope (top 38)) .none kV27 dc27 pm27 an27 cd27 ct27), sl27⟩) (c27 : PySem.W.codeIn K cd27 "_law_watcher" = true) (k27 : PySem.W.keepIn K (.ref f27) = true)
    (a28 : PySem.W.nsIn K mainGlobals "_law_world" = some (some (.ref f28))) (l28 : K.lookup f28 = some ⟨oc28, od28, .func (PySem.W.fnOf "_law_world" "_law_world" (defArgs (top 39)) (defBody (top 39)) (defScope (top 39)) .none kV28 dc28 pm28 an28 cd28 ct28), sl28⟩) (c28 : PySem.W.codeIn K cd28 "_law_world" = true) (k28 : PySem.W.keepIn K (.ref f28) = true)
    (a29 : PySem.W.nsIn K mainGlobals "_law_deep" = some (some (.ref f29))) (l29 : K.lookup f29 = some ⟨oc29, od29, .func (PySem.W.fnOf "_law_deep" "_law_deep" (defArgs (top 40)) (defBody (top 40)) (defScope (top 40)) .none kV29 dc29 pm29 an29 cd29 ct29), sl29⟩) (c29 : PySem.W.codeIn K cd29 "_law_deep" = true) (k29 : PySem.W.keepIn K (.ref f29) = true)
    (a30 : PySem.W.nsIn K mainGlobals "_law_word" = some (some (.ref f30))) (l30 : K.lookup f30 = some ⟨oc30, od30, .func (PySem.W.fnOf "_law_word" "_law_word" (defArgs (top 41)) (defBody (top 41)) (defScope (top 41)) .none kV30 dc30 pm30 an30 cd30 ct30), sl30⟩) (c30 : PySem.W.codeIn K cd30 "_law_word" = true) (k30 : PySem.W.keepIn K (.ref f30) = true)
    (a31 : PySem.W.nsIn K mainGlobals "_law_onward" = some (some (.ref f31))) (l31 : K.lookup f31 = some ⟨oc31, od31, .func (PySem.W.fnOf "_law_onward" "_law_onward" (defArgs (top 42)) (defBody (top 42)) (defScope (top 42)) .none kV31 dc31 pm31 an31 cd31 ct31), sl31⟩) (c31 : PySem.W.codeIn K cd31 "_law_onward" = true) (k31 : PySem.W.keepIn K (.ref f31) = true)
    (a32 : PySem.W.nsIn K mainGlobals "_law_trip" = some (some (.ref f32))) (l32 : K.lookup f32 = some ⟨oc32, od32, .func (PySem.W.fnOf "_law_trip" "_law_trip" (defArgs (top 43)) (defBody (top 43)) (defScope (top 43)) .none kV32 dc32 pm32 an32 cd32 ct32), sl32⟩) (c32 : PySem.W.codeIn K cd32 "_law_trip" = true) (k32 : PySem.W.keepIn K (.ref f32) = true)
    (a33 : PySem.W.nsIn K mainGlobals "_law_go" = some (some (.ref f33))) (l33 : K.lookup f33 = some ⟨oc33, od33, .func (PySem.W.fnOf "_law_go" "_law_go" (defArgs (top 44)) (defBody (top 44)) (defScope (top 44)) .none kV33 dc33 pm33 an33 cd33 ct33), sl33⟩) (c33 : PySem.W.codeIn K cd33 "_law_go" = true) (k33 : PySem.W.keepIn K (.ref f33) = true)
    (a34 : PySem.W.nsIn K mainGlobals "_law_spots" = some (some (.ref f34))) (l34 : K.lookup f34 = some ⟨oc34, od34, .func (PySem.W.fnOf "_law_spots" "_law_spots" (defArgs (top 45)) (defBody (top 45)) (defScope (top 45)) .none kV34 dc34 pm34 an34 cd34 ct34), sl34⟩) (c34 : PySem.W.codeIn K cd34 "_law_spots" = true) (k34 : PySem.W.keepIn K (.ref f34) = true)
    (a35 : PySem.W.nsIn K mainGlobals "_law_due" = some (some (.ref f35))) (l35 : K.lookup f35 = some ⟨oc35, od35, .func (PySem.W.fnOf "_law_due" "_law_due" (defArgs (top 46)) (defBody (top 46)) (defScope (top 46)) .none kV35 dc35 pm35 an35 cd35 ct35), sl35⟩) (c35 : PySem.W.codeIn K cd35 "_law_due" = true) (k35 : PySem.W.keepIn K (.ref f35) = true)
    (a36 : PySem.W.nsIn K mainGlobals "_law_trip_right" = some (some (.ref f36))) (l36 : K.lookup f36 = some ⟨oc36, od36, .func (PySem.W.fnOf "_law_trip_right" "_law_trip_right" (defArgs (top 47)) (defBody (top 47)) (defScope (top 47)) .none kV36 dc36 pm36 an36 cd36 ct36), sl36⟩) (c36 : PySem.W.codeIn K cd36 "_law_trip_right" = true) (k36 : PySem.W.keepIn K (.ref f36) = true)
    (a37 : PySem.W.nsIn K mainGlobals "law" = some (some (.ref f37))) (l37 : K.lookup f37 = some ⟨oc37, od37, .func (PySem.W.fnOf "law" "law" (defArgs (top 49)) (defBody (top 49)) (defScope (top 49)) .none kV37 dc37 pm37 an37 cd37 ct37), sl37⟩) (c37 : PySem.W.codeIn K cd37 "law" = true) (k37 : PySem.W.keepIn K (.ref f37) = true)
    (xa0 : PySem.W.nsIn K mainGlobals "WatchError" = some (some (.ref e0))) (xp0 : PySem.W.excIn K e0 [.type "ValueError", .type "Exception", .type "BaseException", .type "object"] "ValueError.__new__" = true) (xk0 : PySem.W.keepIn K (.ref e0) = true) (xb0 : PySem.W.subIn K (.ref e0) (.type "BaseException") = some true) (xt0 : PySem.W.typeIn K (.ref e0) = some (.type "type"))
    (xa1 : PySem.W.nsIn K mainGlobals "InvalidWatcher" = some (some (.ref e1))) (xp1 : PySem.W.excIn K e1 [.type "ValueError", .type "Exception", .type "BaseException", .type "object"] "ValueError.__new__" = true) (xk1 : PySem.W.keepIn K (.ref e1) = true) (xb1 : PySem.W.subIn K (.ref e1) (.type "BaseException") = some true) (xt1 : PySem.W.typeIn K (.ref e1) = some (.type "type"))
    (xa2 : PySem.W.nsIn K mainGlobals "InvalidWorld" = some (some (.ref e2))) (xp2 : PySem.W.excIn K e2 [.type "ValueError", .type "Exception", .type "BaseException", .type "object"] "ValueError.__new__" = true) (xk2 : PySem.W.keepIn K (.ref e2) = true) (xb2 : PySem.W.subIn K (.ref e2) (.type "BaseException") = some true) (xt2 : PySem.W.typeIn K (.ref e2) = some (.type "type"))
    (xa3 : PySem.W.nsIn K mainGlobals "InvalidLooks" = some (some (.ref e3))) (xp3 : PySem.W.excIn K e3 [.type "ValueError", .type "Exception", .type "BaseException", .type "object"] "ValueError.__new__" = true) (xk3 : PySem.W.keepIn K (.ref e3) = true) (xb3 : PySem.W.subIn K (.ref e3) (.type "BaseException") = some true) (xt3 : PySem.W.typeIn K (.ref e3) = some (.type "type"))
    (xa4 : PySem.W.nsIn K mainGlobals "InvalidWalk" = some (some (.ref e4))) (xp4 : PySem.W.excIn K e4 [.type "ValueError", .type "Exception", .type "BaseException", .type "object"] "ValueError.__new__" = true) (xk4 : PySem.W.keepIn K (.ref e4) = true) (xb4 : PySem.W.subIn K (.ref e4) (.type "BaseException") = some true) (xt4 : PySem.W.typeIn K (.ref e4) = some (.type "type"))
    (xa5 : PySem.W.nsIn K mainGlobals "InvalidIndex" = some (some (.ref e5))) (xp5 : PySem.W.excIn K e5 [.type "ValueError", .type "Exception", .type "BaseException", .type "object"] "ValueError.__new__" = true) (xk5 : PySem.W.keepIn K (.ref e5) = true) (xb5 : PySem.W.subIn K (.ref e5) (.type "BaseException") = some true) (xt5 : PySem.W.typeIn K (.ref e5) = some (.type "type"))
    (ca0 : PySem.W.nsIn K mainGlobals "FAR" = some (some (.int 100000000000000000000000000000000 tk0)))
    (z0 : PySem.W.nsIn K mainGlobals "abs" = some none)
    (z1 : PySem.W.nsIn K mainGlobals "all" = some none)
    (z2 : PySem.W.nsIn K mainGlobals "bool" = some none)
    (z3 : PySem.W.nsIn K mainGlobals "int" = some none)
    (z4 : PySem.W.nsIn K mainGlobals "isinstance" = some none)
    (z5 : PySem.W.nsIn K mainGlobals "len" = some none)
    (z6 : PySem.W.nsIn K mainGlobals "list" = some none)
    (z7 : PySem.W.nsIn K mainGlobals "max" = some none)
    (z8 : PySem.W.nsIn K mainGlobals "min" = some none)
    (z9 : PySem.W.nsIn K mainGlobals "range" = some none)
    (z10 : PySem.W.nsIn K mainGlobals "str" = some none)
    (z11 : PySem.W.nsIn K mainGlobals "tuple" = some none)
    (z12 : PySem.W.nsIn K mainGlobals "zip" = some none)
    (A0 : PySem.W.nsIn K mainGlobals "_law_word_for" = some (some (.ref g0))) (L0 : K.lookup g0 = some ⟨Oc0, Od0, .func (PySem.W.fnOf "_law_word_for" "_law_word_for" (defArgs (top 48)) (defBody (top 48)) (defScope (top 48)) .none KV0 Dc0 Pm0 An0 Cd0 Ct0), Sl0⟩) (C0 : PySem.W.codeIn K Cd0 "_law_word_for" = true) (K0 : PySem.W.keepIn K (.ref g0) = true)
    (xs4_4 : PySem.W.subIn K (.ref e4) (.ref e4) = some true)
    (xs3_4 : PySem.W.subIn K (.ref e3) (.ref e4) = some false)
    (xs3_3 : PySem.W.subIn K (.ref e3) (.ref e3) = some true)
    (xs5_4 : PySem.W.subIn K (.ref e5) (.ref e4) = some false)
    (xs5_3 : PySem.W.subIn K (.ref e5) (.ref e3) = some false)
    (xs5_5 : PySem.W.subIn K (.ref e5) (.ref e5) = some true)
    (xd3 : PySem.W.hasDictIn K e3 = true)
    (xd4 : PySem.W.hasDictIn K e4 = true)
    (xd5 : PySem.W.hasDictIn K e5 = true)
    (ti37 : cd37 = .ref tc37) (tg37 : h.get? tp37 = some (PySem.W.tabObj #[])) (th37 : PySem.W.codeHdIn K tc37 tp37 = true) (tn37 : K.lookup tp37 = none) :
    LamX.LawAtS l w K (L2.CX l.prog w) 40 63 "_law_script" mg fa h := by
  have e : fa = f37 := by
    have e := hfa.symm.trans (PySem.W.mg_of X G a37)
    cases e; rfl
  subst fa
  have xm4_4 := PySem.W.exm_ref xb4 xd4 xt4 xs4_4
  have xm3_4 := PySem.W.exm_ref xb4 xd4 xt4 xs3_4
  have xm3_3 := PySem.W.exm_ref xb3 xd3 xt3 xs3_3
  have xm5_4 := PySem.W.exm_ref xb4 xd4 xt4 xs5_4
  have xm5_3 := PySem.W.exm_ref xb3 xd3 xt3 xs5_3
  have xm5_5 := PySem.W.exm_ref xb5 xd5 xt5 xs5_5
  let F : LF lw K mg := {
    g := ⟨K, fun i => [f0, f1, f2, f3, f4, f5, f6, f7, f8, f9, f10, f11, f12, f13, f14, f15, f16, f17, f18, f19, f20, f21, f22, f23, f24, f25, f26, f27, f28, f29, f30, f31, f32, f33, f34, f35, f36, f37].getD i 0, fun i => [e0, e1, e2, e3, e4, e5].getD i 0, [], [(tp37, "law.<locals>.<lambda>")]⟩
    fdOf := fun i => [PySem.W.fnOf "is_from" "is_from" (defArgs (top 9)) (defBody (top 9)) (defScope (top 9)) .none kV0 dc0 pm0 an0 cd0 ct0,
      PySem.W.fnOf "is_good_watcher" "is_good_watcher" (defArgs (top 10)) (defBody (top 10)) (defScope (top 10)) .none kV1 dc1 pm1 an1 cd1 ct1,
      PySem.W.fnOf "is_good_world" "is_good_world" (defArgs (top 11)) (defBody (top 11)) (defScope (top 11)) .none kV2 dc2 pm2 an2 cd2 ct2,
      PySem.W.fnOf "is_look" "is_look" (defArgs (top 12)) (defBody (top 12)) (defScope (top 12)) .none kV3 dc3 pm3 an3 cd3 ct3,
      PySem.W.fnOf "are_looks" "are_looks" (defArgs (top 13)) (defBody (top 13)) (defScope (top 13)) .none kV4 dc4 pm4 an4 cd4 ct4,
      PySem.W.fnOf "depth_of" "depth_of" (defArgs (top 14)) (defBody (top 14)) (defScope (top 14)) .none kV5 dc5 pm5 an5 cd5 ct5,
      PySem.W.fnOf "word_at" "word_at" (defArgs (top 15)) (defBody (top 15)) (defScope (top 15)) .none kV6 dc6 pm6 an6 cd6 ct6,
      PySem.W.fnOf "look_word" "look_word" (defArgs (top 16)) (defBody (top 16)) (defScope (top 16)) .none kV7 dc7 pm7 an7 cd7 ct7,
      PySem.W.fnOf "stepped" "stepped" (defArgs (top 17)) (defBody (top 17)) (defScope (top 17)) .none kV8 dc8 pm8 an8 cd8 ct8,
      PySem.W.fnOf "need_watcher" "need_watcher" (defArgs (top 18)) (defBody (top 18)) (defScope (top 18)) .none kV9 dc9 pm9 an9 cd9 ct9,
      PySem.W.fnOf "need_world" "need_world" (defArgs (top 19)) (defBody (top 19)) (defScope (top 19)) .none kV10 dc10 pm10 an10 cd10 ct10,
      PySem.W.fnOf "need_looks" "need_looks" (defArgs (top 20)) (defBody (top 20)) (defScope (top 20)) .none kV11 dc11 pm11 an11 cd11 ct11,
      PySem.W.fnOf "is_good_walk" "is_good_walk" (defArgs (top 22)) (defBody (top 22)) (defScope (top 22)) .none kV12 dc12 pm12 an12 cd12 ct12,
      PySem.W.fnOf "lost_runs" "lost_runs" (defArgs (top 23)) (defBody (top 23)) (defScope (top 23)) .none kV13 dc13 pm13 an13 cd13 ct13,
      PySem.W.fnOf "goes" "goes" (defArgs (top 24)) (defBody (top 24)) (defScope (top 24)) .none kV14 dc14 pm14 an14 cd14 ct14,
      PySem.W.fnOf "wrongs" "wrongs" (defArgs (top 25)) (defBody (top 25)) (defScope (top 25)) .none kV15 dc15 pm15 an15 cd15 ct15,
      PySem.W.fnOf "need_walk" "need_walk" (defArgs (top 26)) (defBody (top 26)) (defScope (top 26)) .none kV16 dc16 pm16 an16 cd16 ct16,
      PySem.W.fnOf "moved_by" "moved_by" (defArgs (top 27)) (defBody (top 27)) (defScope (top 27)) .none kV17 dc17 pm17 an17 cd17 ct17,
      PySem.W.fnOf "greater" "greater" (defArgs (top 28)) (defBody (top 28)) (defScope (top 28)) .none kV18 dc18 pm18 an18 cd18 ct18,
      PySem.W.fnOf "lesser" "lesser" (defArgs (top 29)) (defBody (top 29)) (defScope (top 29)) .none kV19 dc19 pm19 an19 cd19 ct19,
      PySem.W.fnOf "ranges" "ranges" (defArgs (top 30)) (defBody (top 30)) (defScope (top 30)) .none kV20 dc20 pm20 an20 cd20 ct20,
      PySem.W.fnOf "go_with" "go_with" (defArgs (top 31)) (defBody (top 31)) (defScope (top 31)) .none kV21 dc21 pm21 an21 cd21 ct21,
      PySem.W.fnOf "wrong_looks" "wrong_looks" (defArgs (top 32)) (defBody (top 32)) (defScope (top 32)) .none kV22 dc22 pm22 an22 cd22 ct22,
      PySem.W.fnOf "places_told" "places_told" (defArgs (top 33)) (defBody (top 33)) (defScope (top 33)) .none kV23 dc23 pm23 an23 cd23 ct23,
      PySem.W.fnOf "_law_tun" "_law_tun" (defArgs (top 35)) (defBody (top 35)) (defScope (top 35)) .none kV24 dc24 pm24 an24 cd24 ct24,
      PySem.W.fnOf "_law_scoop" "_law_scoop" (defArgs (top 36)) (defBody (top 36)) (defScope (top 36)) .none kV25 dc25 pm25 an25 cd25 ct25,
      PySem.W.fnOf "_law_any" "_law_any" (defArgs (top 37)) (defBody (top 37)) (defScope (top 37)) .none kV26 dc26 pm26 an26 cd26 ct26,
      PySem.W.fnOf "_law_watcher" "_law_watcher" (defArgs (top 38)) (defBody (top 38)) (defScope (top 38)) .none kV27 dc27 pm27 an27 cd27 ct27,
      PySem.W.fnOf "_law_world" "_law_world" (defArgs (top 39)) (defBody (top 39)) (defScope (top 39)) .none kV28 dc28 pm28 an28 cd28 ct28,
      PySem.W.fnOf "_law_deep" "_law_deep" (defArgs (top 40)) (defBody (top 40)) (defScope (top 40)) .none kV29 dc29 pm29 an29 cd29 ct29,
      PySem.W.fnOf "_law_word" "_law_word" (defArgs (top 41)) (defBody (top 41)) (defScope (top 41)) .none kV30 dc30 pm30 an30 cd30 ct30,
      PySem.W.fnOf "_law_onward" "_law_onward" (defArgs (top 42)) (defBody (top 42)) (defScope (top 42)) .none kV31 dc31 pm31 an31 cd31 ct31,
      PySem.W.fnOf "_law_trip" "_law_trip" (defArgs (top 43)) (defBody (top 43)) (defScope (top 43)) .none kV32 dc32 pm32 an32 cd32 ct32,
      PySem.W.fnOf "_law_go" "_law_go" (defArgs (top 44)) (defBody (top 44)) (defScope (top 44)) .none kV33 dc33 pm33 an33 cd33 ct33,
      PySem.W.fnOf "_law_spots" "_law_spots" (defArgs (top 45)) (defBody (top 45)) (defScope (top 45)) .none kV34 dc34 pm34 an34 cd34 ct34,
      PySem.W.fnOf "_law_due" "_law_due" (defArgs (top 46)) (defBody (top 46)) (defScope (top 46)) .none kV35 dc35 pm35 an35 cd35 ct35,
      PySem.W.fnOf "_law_trip_right" "_law_trip_right" (defArgs (top 47)) (defBody (top 47)) (defScope (top 47)) .none kV36 dc36 pm36 an36 cd36 ct36,
      PySem.W.fnOf "law" "law" (defArgs (top 49)) (defBody (top 49)) (defScope (top 49)) .none kV37 dc37 pm37 an37 cd37 ct37].getD i (PySem.W.fnOf "is_from" "is_from" (defArgs (top 9)) (defBody (top 9)) (defScope (top 9)) .none kV0 dc0 pm0 an0 cd0 ct0)
    hK := rfl
    fns := by
      intro f d hd
      have hlt : f < 38 := (List.getElem?_eq_some_iff.mp hd).1
      rcases Nat.lt_or_ge f 1 with q | q
      · obtain rfl : f = 0 := by omega
        cases hd
        have Fu := L2.fun_mk (x := "is_from") (qual := "is_from") (st := top 9) l0 c0 k0
        exact ⟨Fu, PySem.W.mg_of X G a0, Fu.binds (ps := ["value", "low", "high"]) fun _ _ _ _ _ _ us hl => match us, hl with | [_, _, _], _ => rfl⟩
      rcases Nat.lt_or_ge f 2 with q | q
      · obtain rfl : f = 1 := by omega
        cases hd
        have Fu := L2.fun_mk (x := "is_good_watcher") (qual := "is_good_watcher") (st := top 10) l1 c1 k1
        exact ⟨Fu, PySem.W.mg_of X G a1, Fu.binds (ps := ["value"]) fun _ _ _ _ _ _ us hl => match us, hl with | [_], _ => rfl⟩
      rcases Nat.lt_or_ge f 3 with q | q
      · obtain rfl : f = 2 := by omega
        cases hd
        have Fu := L2.fun_mk (x := "is_good_world") (qual := "is_good_world") (st := top 11) l2 c2 k2
        exact ⟨Fu, PySem.W.mg_of X G a2, Fu.binds (ps := ["value"]) fun _ _ _ _ _ _ us hl => match us, hl with | [_], _ => rfl⟩
      rcases Nat.lt_or_ge f 4 with q | q
      · obtain rfl : f = 3 := by omega
        cases hd
        have Fu := L2.fun_mk (x := "is_look") (qual := "is_look") (st := top 12) l3 c3 k3
        exact ⟨Fu, PySem.W.mg_of X G a3, Fu.binds (ps := ["value"]) fun _ _ _ _ _ _ us hl => match us, hl with | [_], _ => rfl⟩
      rcases Nat.lt_or_ge f 5 with q | q
      · obtain rfl : f = 4 := by omega
        cases hd
        have Fu := L2.fun_mk (x := "are_looks") (qual := "are_looks") (st := top 13) l4 c4 k4
        exact ⟨Fu, PySem.W.mg_of X G a4, Fu.binds (ps := ["value"]) fun _ _ _ _ _ _ us hl => match us, hl with | [_], _ => rfl⟩
      rcases Nat.lt_or_ge f 6 with q | q
      · obtain rfl : f = 5 := by omega
        cases hd
        have Fu := L2.fun_mk (x := "depth_of") (qual := "depth_of") (st := top 14) l5 c5 k5
        exact ⟨Fu, PySem.W.mg_of X G a5, Fu.binds (ps := ["watcher", "place"]) fun _ _ _ _ _ _ us hl => match us, hl with | [_, _], _ => rfl⟩
      rcases Nat.lt_or_ge f 7 with q | q
      · obtain rfl : f = 6 := by omega
        cases hd
        have Fu := L2.fun_mk (x := "word_at") (qual := "word_at") (st := top 15) l6 c6 k6
        exact ⟨Fu, PySem.W.mg_of X G a6, Fu.binds (ps := ["watcher", "deep_so"]) fun _ _ _ _ _ _ us hl => match us, hl with | [_, _], _ => rfl⟩
      rcases Nat.lt_or_ge f 8 with q | q
      · obtain rfl : f = 7 := by omega
        cases hd
        have Fu := L2.fun_mk (x := "look_word") (qual := "look_word") (st := top 16) l7 c7 k7
        exact ⟨Fu, PySem.W.mg_of X G a7, Fu.binds (ps := ["watcher", "look"]) fun _ _ _ _ _ _ us hl => match us, hl with | [_, _], _ => rfl⟩
      rcases Nat.lt_or_ge f 9 with q | q
      · obtain rfl : f = 8 := by omega
        cases hd
        have Fu := L2.fun_mk (x := "stepped") (qual := "stepped") (st := top 17) l8 c8 k8
        exact ⟨Fu, PySem.W.mg_of X G a8, Fu.binds (ps := ["watcher", "stand", "word"]) fun _ _ _ _ _ _ us hl => match us, hl with | [_, _, _], _ => rfl⟩
      rcases Nat.lt_or_ge f 10 with q | q
      · obtain rfl : f = 9 := by omega
        cases hd
        have Fu := L2.fun_mk (x := "need_watcher") (qual := "need_watcher") (st := top 18) l9 c9 k9
        exact ⟨Fu, PySem.W.mg_of X G a9, Fu.binds (ps := ["value"]) fun _ _ _ _ _ _ us hl => match us, hl with | [_], _ => rfl⟩
      rcases Nat.lt_or_ge f 11 with q | q
      · obtain rfl : f = 10 := by omega
        cases hd
        have Fu := L2.fun_mk (x := "need_world") (qual := "need_world") (st := top 19) l10 c10 k10
        exact ⟨Fu, PySem.W.mg_of X G a10, Fu.binds (ps := ["value"]) fun _ _ _ _ _ _ us hl => match us, hl with | [_], _ => rfl⟩
      rcases Nat.lt_or_ge f 12 with q | q
      · obtain rfl : f = 11 := by omega
        cases hd
        have Fu := L2.fun_mk (x := "need_looks") (qual := "need_looks") (st := top 20) l11 c11 k11
        exact ⟨Fu, PySem.W.mg_of X G a11, Fu.binds (ps := ["value"]) fun _ _ _ _ _ _ us hl => match us, hl with | [_], _ => rfl⟩
      rcases Nat.lt_or_ge f 13 with q | q
      · obtain rfl : f = 12 := by omega
        cases hd
        have Fu := L2.fun_mk (x := "is_good_walk") (qual := "is_good_walk") (st := top 22) l12 c12 k12
        exact ⟨Fu, PySem.W.mg_of X G a12, Fu.binds (ps := ["world", "value"]) fun _ _ _ _ _ _ us hl => match us, hl with | [_, _], _ => rfl⟩
      rcases Nat.lt_or_ge f 14 with q | q
      · obtain rfl : f = 13 := by omega
        cases hd
        have Fu := L2.fun_mk (x := "lost_runs") (qual := "lost_runs") (st := top 23) l13 c13 k13
        exact ⟨Fu, PySem.W.mg_of X G a13, Fu.binds (ps := ["looks"]) fun _ _ _ _ _ _ us hl => match us, hl with | [_], _ => rfl⟩
      rcases Nat.lt_or_ge f 15 with q | q
      · obtain rfl : f = 14 := by omega
        cases hd
        have Fu := L2.fun_mk (x := "goes") (qual := "goes") (st := top 24) l14 c14 k14
        exact ⟨Fu, PySem.W.mg_of X G a14, Fu.binds (ps := ["world", "walk", "looks"]) fun _ _ _ _ _ _ us hl => match us, hl with | [_, _, _], _ => rfl⟩
      rcases Nat.lt_or_ge f 16 with q | q
      · obtain rfl : f = 15 := by omega
        cases hd
        have Fu := L2.fun_mk (x := "wrongs") (qual := "wrongs") (st := top 25) l15 c15 k15
        exact ⟨Fu, PySem.W.mg_of X G a15, Fu.binds (ps := ["watcher", "stand", "walk", "looks"]) fun _ _ _ _ _ _ us hl => match us, hl with | [_, _, _, _], _ => rfl⟩
      rcases Nat.lt_or_ge f 17 with q | q
      · obtain rfl : f = 16 := by omega
        cases hd
        have Fu := L2.fun_mk (x := "need_walk") (qual := "need_walk") (st := top 26) l16 c16 k16
        exact ⟨Fu, PySem.W.mg_of X G a16, Fu.binds (ps := ["world", "value"]) fun _ _ _ _ _ _ us hl => match us, hl with | [_, _], _ => rfl⟩
      rcases Nat.lt_or_ge f 18 with q | q
      · obtain rfl : f = 17 := by omega
        cases hd
        have Fu := L2.fun_mk (x := "moved_by") (qual := "moved_by") (st := top 27) l17 c17 k17
        exact ⟨Fu, PySem.W.mg_of X G a17, Fu.binds (ps := ["bound", "by"]) fun _ _ _ _ _ _ us hl => match us, hl with | [_, _], _ => rfl⟩
      rcases Nat.lt_or_ge f 19 with q | q
      · obtain rfl : f = 18 := by omega
        cases hd
        have Fu := L2.fun_mk (x := "greater") (qual := "greater") (st := top 28) l18 c18 k18
        exact ⟨Fu, PySem.W.mg_of X G a18, Fu.binds (ps := ["one", "other"]) fun _ _ _ _ _ _ us hl => match us, hl with | [_, _], _ => rfl⟩
      rcases Nat.lt_or_ge f 20 with q | q
      · obtain rfl : f = 19 := by omega
        cases hd
        have Fu := L2.fun_mk (x := "lesser") (qual := "lesser") (st := top 29) l19 c19 k19
        exact ⟨Fu, PySem.W.mg_of X G a19, Fu.binds (ps := ["one", "other"]) fun _ _ _ _ _ _ us hl => match us, hl with | [_, _], _ => rfl⟩
      rcases Nat.lt_or_ge f 21 with q | q
      · obtain rfl : f = 20 := by omega
        cases hd
        have Fu := L2.fun_mk (x := "ranges") (qual := "ranges") (st := top 30) l20 c20 k20
        exact ⟨Fu, PySem.W.mg_of X G a20, Fu.binds (ps := ["world", "looks"]) fun _ _ _ _ _ _ us hl => match us, hl with | [_, _], _ => rfl⟩
      rcases Nat.lt_or_ge f 22 with q | q
      · obtain rfl : f = 21 := by omega
        cases hd
        have Fu := L2.fun_mk (x := "go_with") (qual := "go_with") (st := top 31) l21 c21 k21
        exact ⟨Fu, PySem.W.mg_of X G a21, Fu.binds (ps := ["world", "walk", "looks"]) fun _ _ _ _ _ _ us hl => match us, hl with | [_, _, _], _ => rfl⟩
      rcases Nat.lt_or_ge f 23 with q | q
      · obtain rfl : f = 22 := by omega
        cases hd
        have Fu := L2.fun_mk (x := "wrong_looks") (qual := "wrong_looks") (st := top 32) l22 c22 k22
        exact ⟨Fu, PySem.W.mg_of X G a22, Fu.binds (ps := ["watcher", "world", "walk", "looks"]) fun _ _ _ _ _ _ us hl => match us, hl with | [_, _, _, _], _ => rfl⟩
      rcases Nat.lt_or_ge f 24 with q | q
      · obtain rfl : f = 23 := by omega
        cases hd
        have Fu := L2.fun_mk (x := "places_told") (qual := "places_told") (st := top 33) l23 c23 k23
        exact ⟨Fu, PySem.W.mg_of X G a23, Fu.binds (ps := ["world", "looks", "index"]) fun _ _ _ _ _ _ us hl => match us, hl with | [_, _, _], _ => rfl⟩
      rcases Nat.lt_or_ge f 25 with q | q
      · obtain rfl : f = 24 := by omega
        cases hd
        have Fu := L2.fun_mk (x := "_law_tun") (qual := "_law_tun") (st := top 35) l24 c24 k24
        exact ⟨Fu, PySem.W.mg_of X G a24, Fu.binds (ps := ["_law_script", "_law_k"]) fun _ _ _ _ _ _ us hl => match us, hl with | [_, _], _ => rfl⟩
      rcases Nat.lt_or_ge f 26 with q | q
      · obtain rfl : f = 25 := by omega
        cases hd
        have Fu := L2.fun_mk (x := "_law_scoop") (qual := "_law_scoop") (st := top 36) l25 c25 k25
        exact ⟨Fu, PySem.W.mg_of X G a25, Fu.binds (ps := ["_law_tun_here", "_law_wide"]) fun _ _ _ _ _ _ us hl => match us, hl with | [_, _], _ => rfl⟩
      rcases Nat.lt_or_ge f 27 with q | q
      · obtain rfl : f = 26 := by omega
        cases hd
        have Fu := L2.fun_mk (x := "_law_any") (qual := "_law_any") (st := top 37) l26 c26 k26
        exact ⟨Fu, PySem.W.mg_of X G a26, Fu.binds (ps := ["_law_tun_here", "_law_things"]) fun _ _ _ _ _ _ us hl => match us, hl with | [_, _], _ => rfl⟩
      rcases Nat.lt_or_ge f 28 with q | q
      · obtain rfl : f = 27 := by omega
        cases hd
        have Fu := L2.fun_mk (x := "_law_watcher") (qual := "_law_watcher") (st := top 38) l27 c27 k27
        exact ⟨Fu, PySem.W.mg_of X G a27, Fu.binds (ps := ["_law_tun_here", "_law_wide"]) fun _ _ _ _ _ _ us hl => match us, hl with | [_, _], _ => rfl⟩
      rcases Nat.lt_or_ge f 29 with q | q
      · obtain rfl : f = 28 := by omega
        cases hd
        have Fu := L2.fun_mk (x := "_law_world") (qual := "_law_world") (st := top 39) l28 c28 k28
        exact ⟨Fu, PySem.W.mg_of X G a28, Fu.binds (ps := ["_law_tun_here"]) fun _ _ _ _ _ _ us hl => match us, hl with | [_], _ => rfl⟩
      rcases Nat.lt_or_ge f 30 with q | q
      · obtain rfl : f = 29 := by omega
        cases hd
        have Fu := L2.fun_mk (x := "_law_deep") (qual := "_law_deep") (st := top 40) l29 c29 k29
        exact ⟨Fu, PySem.W.mg_of X G a29, Fu.binds (ps := ["_law_watcher_so", "_law_place"]) fun _ _ _ _ _ _ us hl => match us, hl with | [_, _], _ => rfl⟩
      rcases Nat.lt_or_ge f 31 with q | q
      · obtain rfl : f = 30 := by omega
        cases hd
        have Fu := L2.fun_mk (x := "_law_word") (qual := "_law_word") (st := top 41) l30 c30 k30
        exact ⟨Fu, PySem.W.mg_of X G a30, Fu.binds (ps := ["_law_watcher_so", "_law_look"]) fun _ _ _ _ _ _ us hl => match us, hl with | [_, _], _ => rfl⟩
      rcases Nat.lt_or_ge f 32 with q | q
      · obtain rfl : f = 31 := by omega
        cases hd
        have Fu := L2.fun_mk (x := "_law_onward") (qual := "_law_onward") (st := top 42) l31 c31 k31
        exact ⟨Fu, PySem.W.mg_of X G a31, Fu.binds (ps := ["_law_watcher_so", "_law_stand_so", "_law_look"]) fun _ _ _ _ _ _ us hl => match us, hl with | [_, _, _], _ => rfl⟩
      rcases Nat.lt_or_ge f 33 with q | q
      · obtain rfl : f = 32 := by omega
        cases hd
        have Fu := L2.fun_mk (x := "_law_trip") (qual := "_law_trip") (st := top 43) l32 c32 k32
        exact ⟨Fu, PySem.W.mg_of X G a32, Fu.binds (ps := ["_law_tun_here", "_law_watcher_so", "_law_world_so", "_law_many"]) fun _ _ _ _ _ _ us hl => match us, hl with | [_, _, _, _], _ => rfl⟩
      rcases Nat.lt_or_ge f 34 with q | q
      · obtain rfl : f = 33 := by omega
        cases hd
        have Fu := L2.fun_mk (x := "_law_go") (qual := "_law_go") (st := top 44) l33 c33 k33
        exact ⟨Fu, PySem.W.mg_of X G a33, Fu.binds (ps := ["_law_world_so", "_law_walk_so", "_law_looks_so"]) fun _ _ _ _ _ _ us hl => match us, hl with | [_, _, _], _ => rfl⟩
      rcases Nat.lt_or_ge f 35 with q | q
      · obtain rfl : f = 34 := by omega
        cases hd
        have Fu := L2.fun_mk (x := "_law_spots") (qual := "_law_spots") (st := top 45) l34 c34 k34
        exact ⟨Fu, PySem.W.mg_of X G a34, Fu.binds (ps := ["_law_world_so", "_law_looks_so", "_law_least", "_law_most"]) fun _ _ _ _ _ _ us hl => match us, hl with | [_, _, _, _], _ => rfl⟩
      rcases Nat.lt_or_ge f 36 with q | q
      · obtain rfl : f = 35 := by omega
        cases hd
        have Fu := L2.fun_mk (x := "_law_due") (qual := "_law_due") (st := top 46) l35 c35 k35
        exact ⟨Fu, PySem.W.mg_of X G a35, Fu.binds (ps := ["_law_world_so", "_law_looks_so", "_law_index_so"]) fun _ _ _ _ _ _ us hl => match us, hl with | [_, _, _], _ => rfl⟩
      rcases Nat.lt_or_ge f 37 with q | q
      · obtain rfl : f = 36 := by omega
        cases hd
        have Fu := L2.fun_mk (x := "_law_trip_right") (qual := "_law_trip_right") (st := top 47) l36 c36 k36
        exact ⟨Fu, PySem.W.mg_of X G a36, Fu.binds (ps := ["_law_tun_here", "_law_watcher_so", "_law_world_so"]) fun _ _ _ _ _ _ us hl => match us, hl with | [_, _, _], _ => rfl⟩
      have q : f < 38 := hlt
      · obtain rfl : f = 37 := by omega
        cases hd
        have Fu := L2.fun_mk (x := "law") (qual := "law") (st := top 49) l37 c37 k37
        exact ⟨Fu, PySem.W.mg_of X G a37, Fu.binds (ps := ["_law_script"]) fun _ _ _ _ _ _ us hl => match us, hl with | [_], _ => rfl⟩
    blt := by
      intro x hx
      simp only [lw, List.mem_cons, List.not_mem_nil, or_false] at hx
      rcases hx with rfl | rfl | rfl | rfl | rfl | rfl | rfl | rfl | rfl | rfl | rfl | rfl | rfl
      · exact PySem.W.mg_none_of X G z0
      · exact PySem.W.mg_none_of X G z1
      · exact PySem.W.mg_none_of X G z2
      · exact PySem.W.mg_none_of X G z3
      · exact PySem.W.mg_none_of X G z4
      · exact PySem.W.mg_none_of X G z5
      · exact PySem.W.mg_none_of X G z6
      · exact PySem.W.mg_none_of X G z7
      · exact PySem.W.mg_none_of X G z8
      · exact PySem.W.mg_none_of X G z9
      · exact PySem.W.mg_none_of X G z10
      · exact PySem.W.mg_none_of X G z11
      · exact PySem.W.mg_none_of X G z12
    cst := by
      intro c x hc
      have hlt : c < 1 := (List.getElem?_eq_some_iff.mp hc).1
      have q : c < 1 := hlt
      · obtain rfl : c = 0 := by omega
        cases hc
        exact ⟨_, .int 100000000000000000000000000000000, PySem.W.mg_of X G ca0, ⟨_, rfl⟩, fun _ _ _ => Rep.int_⟩
    exc := by
      intro c x hc
      have hlt : c < 6 := (List.getElem?_eq_some_iff.mp hc).1
      rcases Nat.lt_or_ge c 1 with q | q
      · obtain rfl : c = 0 := by omega
        cases hc
        exact ⟨_, _, _, _, PySem.F.excBase_ValueError, xp0, PySem.W.mg_of X G xa0, xk0, xb0, xt0⟩
      rcases Nat.lt_or_ge c 2 with q | q
      · obtain rfl : c = 1 := by omega
        cases hc
        exact ⟨_, _, _, _, PySem.F.excBase_ValueError, xp1, PySem.W.mg_of X G xa1, xk1, xb1, xt1⟩
      rcases Nat.lt_or_ge c 3 with q | q
      · obtain rfl : c = 2 := by omega
        cases hc
        exact ⟨_, _, _, _, PySem.F.excBase_ValueError, xp2, PySem.W.mg_of X G xa2, xk2, xb2, xt2⟩
      rcases Nat.lt_or_ge c 4 with q | q
      · obtain rfl : c = 3 := by omega
        cases hc
        exact ⟨_, _, _, _, PySem.F.excBase_ValueError, xp3, PySem.W.mg_of X G xa3, xk3, xb3, xt3⟩
      rcases Nat.lt_or_ge c 5 with q | q
      · obtain rfl : c = 4 := by omega
        cases hc
        exact ⟨_, _, _, _, PySem.F.excBase_ValueError, xp4, PySem.W.mg_of X G xa4, xk4, xb4, xt4⟩
      have q : c < 6 := hlt
      · obtain rfl : c = 5 := by omega
        cases hc
        exact ⟨_, _, _, _, PySem.F.excBase_ValueError, xp5, PySem.W.mg_of X G xa5, xk5, xb5, xt5⟩
    cs := [(tc37, tp37)]
    lfn := by
      intro j li hj
      have hlt : j < 1 := (List.getElem?_eq_some_iff.mp hj).1
      have q : j < 1 := hlt
      · obtain rfl : j = 0 := by omega
        cases hj
        have Fu := L2.fun_mk (x := "_law_word_for") (qual := "_law_word_for") (st := top 48) L0 C0 K0
        refine ⟨_, _, _, Fu, PySem.W.mg_of X G A0, Fu.binds (ps := ["_law_call"]) fun _ _ _ _ _ _ us hl => match us, hl with | [_], _ => rfl, rfl, fun p hp => ?_⟩
        simp only [List.mem_cons, List.not_mem_nil, or_false] at hp
        rcases hp with rfl | rfl | rfl
        · exact ⟨_, rfl, fun Q d H hq => ⟨true, xm4_4, fun _ => hq, fun z => Bool.noConfusion z⟩⟩
        · exact ⟨_, rfl, fun Q d H hq => ⟨false, xm3_4, fun z => Bool.noConfusion z, fun _ => ⟨true, xm3_3, fun _ => hq, fun z => Bool.noConfusion z⟩⟩⟩
        · exact ⟨_, rfl, fun Q d H hq => ⟨false, xm5_4, fun z => Bool.noConfusion z, fun _ => ⟨false, xm5_3, fun z => Bool.noConfusion z, fun _ => ⟨true, xm5_5, fun _ => hq, fun z => Bool.noConfusion z⟩⟩⟩⟩
    tab := by
      intro f d hd hl
      have hlt : f < 38 := (List.getElem?_eq_some_iff.mp hd).1
      have zz : (List.range 38).all (fun f => (lw.ds[f]?.map (·.lam)).getD false == [37].contains f) = true := by decide +kernel
      have z := List.all_eq_true.mp zz f (List.mem_range.mpr hlt)
      rw [hd, Option.map_some, hl] at z
      have z : f ∈ [37] := by simpa using z
      simp only [List.mem_cons, List.not_mem_nil, or_false] at z
      subst z
      · cases hd
        refine ⟨tc37, tp37, ti37, by simp, List.mem_of_getElem? (i := 0) rfl, fun p hp hq => ?_⟩
        simp only [List.mem_cons, List.not_mem_nil, or_false] at hp
        subst hp; rfl
  }
  refine ⟨F.fdOf 37, [(tc37, tp37)], spLaw K [(tp37, "law.<locals>.<lambda>")], fun p hp => ?_, fun p hp => ?_, fun p hp => ?_, fun s v => .of_eq rfl, fun H a ns hl _ hH hS => ⟨a, ns, rfl, hS, hl, fun p hp => ?_, fun _ => rfl⟩, fun base _ _ TB => ?_⟩
  · simp only [List.mem_cons, List.not_mem_nil, or_false] at hp
    subst hp
    exact tg37
  · simp only [List.mem_cons, List.not_mem_nil, or_false] at hp
    subst hp
    exact tn37
  · simp only [List.mem_cons, List.not_mem_nil, or_false] at hp
    subst hp
    exact PySem.W.codeHd_of_K X th37
  · simp only [List.mem_cons, List.not_mem_nil, or_false] at hp
    subst hp
    exact LamX.TabS.nil (hH (tc37, tp37) (by simp))
  · exact law_ok F lw_tab lw_ok lw_okL TB 40 37 (lw.ds.getD 37 ⟨"", top 0, [], [], fd_law, false⟩) rfl rfl law_runs
theorem walk {l : PySem.W.OpenLaw} {q : Program} {loose : List Str} {XP : (Str → Option Value) → Heap → Prop} {YP : World → Heap → Prop} {d : DefRec} {K : Params → PySem.W.Frag} (hn : l.most = some 63) (hdf : d.params.defaults = [])
    (hY : ∀ (w : World) (h : Heap), YP w h → (K w.params).In h)
    (F : ∀ (w : World) (mg : Str → Option Value) (fa : Addr) (h : Heap), YP w h → (K w.params).In h → h.Ns mainGlobals mg → mg d.name = some (.ref fa) → LamX.LawAtS l w (K w.params) (L2.CX l.prog w) 40 63 "_law_script" mg fa h) :
    PySem.W.WalkO q loose XP YP l.row.toRowW d [] (fun f vs => PySem.call f vs) :=
  LamX.walk_ofTs (n := 63) (k := 40) (x := "_law_script") (CX := fun w => L2.CX l.prog w) hn (by decide) hdf ⟨rfl, by decide, by decide⟩ hY F fun _ _ _ _ _ z => by
    obtain ⟨_, _, _, _, _, _, _, _, _, _, _, _, z⟩ := z
    exact z
end Fw
open PySem PySem.W PyProof.Rows
set_option maxRecDepth 100000 in
set_option maxHeartbeats 0 in
theorem PySem.Challenge.cw_fencewatch_k03_walks_and_what_looks_tell_holds : PySem.Challenge.rw_fencewatch_k03_walks_and_what_looks_tell.Holds := by
  w_on; o_law; k_head; (case hw => w_witness2)
  k_fill
  refine Fw.walk (l := PySem.Challenge.rw_fencewatch_k03_walks_and_what_looks_tell) rfl rfl (fun w h Y => PySem.W.km_in_of Y) ?F
  case F =>
    intro w mg fa h Y KX G hmg
    have hT8 := PySem.W.km_tabs_of Y
    refine' Fw.all_mk KX G hmg ?a0 ?l0 ?c0 ?k0 ?a1 ?l1 ?c1 ?k1 ?a2 ?l2 ?c2 ?k2 ?a3 ?l3 ?c3 ?k3 ?a4 ?l4 ?c4 ?k4 ?a5 ?l5 ?c5 ?k5 ?a6 ?l6 ?c6 ?k6 ?a7 ?l7 ?c7 ?k7 ?a8 ?l8 ?c8 ?k8 ?a9 ?l9 ?c9 ?k9 ?a10 ?l10 ?c10 ?k10 ?a11 ?l11 ?c11 ?k11 ?a12 ?l12 ?c12 ?k12 ?a13 ?l13 ?c13 ?k13 ?a14 ?l14 ?c14 ?k14 ?a15 ?l15 ?c15 ?k15 ?a16 ?l16 ?c16 ?k16 ?a17 ?l17 ?c17 ?k17 ?a18 ?l18 ?c18 ?k18 ?a19 ?l19 ?c19 ?k19 ?a20 ?l20 ?c20 ?k20 ?a21 ?l21 ?c21 ?k21 ?a22 ?l22 ?c22 ?k22 ?a23 ?l23 ?c23 ?k23 ?a24 ?l24 ?c24 ?k24 ?a25 ?l25 ?c25 ?k25 ?a26 ?l26 ?c26 ?k26 ?a27 ?l27 ?c27 ?k27 ?a28 ?l28 ?c28 ?k28 ?a29 ?l29 ?c29 ?k29 ?a30 ?l30 ?c30 ?k30 ?a31 ?l31 ?c31 ?k31 ?a32 ?l32 ?c32 ?k32 ?a33 ?l33 ?c33 ?k33 ?a34 ?l34 ?c34 ?k34 ?a35 ?l35 ?c35 ?k35 ?a36 ?l36 ?c36 ?k36 ?a37 ?l37 ?c37 ?k37 ?xa0 ?xp0 ?xk0 ?xb0 ?xt0 ?xa1 ?xp1 ?xk1 ?xb1 ?xt1 ?xa2 ?xp2 ?xk2 ?xb2 ?xt2 ?xa3 ?xp3 ?xk3 ?xb3 ?xt3 ?xa4 ?xp4 ?xk4 ?xb4 ?xt4 ?xa5 ?xp5 ?xk5 ?xb5 ?xt5 ?ca0 ?z0 ?z1 ?z2 ?z3 ?z4 ?z5 ?z6 ?z7 ?z8 ?z9 ?z10 ?z11 ?z12 ?A0 ?L0 ?C0 ?K0 ?xs4_4 ?xs3_4 ?xs3_3 ?xs5_4 ?xs5_3 ?xs5_5 ?xd3 ?xd4 ?xd5 ?ti37 ?tg37 ?th37 ?tn37
    (case a0 => k_is)
    (case l0 => k_is)
    (case c0 => k_is)
    (case k0 => k_is)
    (case a1 => k_is)
    (case l1 => k_is)
    (case c1 => k_is)
    (case k1 => k_is)
    (case a2 => k_is)
    (case l2 => k_is)
    (case c2 => k_is)
    (case k2 => k_is)
    (case a3 => k_is)
    (case l3 => k_is)
    (case c3 => k_is)
    (case k3 => k_is)
    (case a4 => k_is)
    (case l4 => k_is)
    (case c4 => k_is)
    (case k4 => k_is)
    (case a5 => k_is)
    (case l5 => k_is)
    (case c5 => k_is)
    (case k5 => k_is)
    (case a6 => k_is)
    (case l6 => k_is)
    (case c6 => k_is)
    (case k6 => k_is)
    (case a7 => k_is)
    (case l7 => k_is)
    (case c7 => k_is)
    (case k7 => k_is)
    (case a8 => k_is)
    (case l8 => k_is)
    (case c8 => k_is)
    (case k8 => k_is)
    (case a9 => k_is)
    (case l9 => k_is)
    (case c9 => k_is)
    (case k9 => k_is)
    (case a10 => k_is)
    (case l10 => k_is)
    (case c10 => k_is)
    (case k10 => k_is)
    (case a11 => k_is)
    (case l11 => k_is)
    (case c11 => k_is)
    (case k11 => k_is)
    (case a12 => k_is)
    (case l12 => k_is)
    (case c12 => k_is)
    (case k12 => k_is)
    (case a13 => k_is)
    (case l13 => k_is)
    (case c13 => k_is)
    (case k13 => k_is)
    (case a14 => k_is)
    (case l14 => k_is)
    (case c14 => k_is)
    (case k14 => k_is)
    (case a15 => k_is)
    (case l15 => k_is)
    (case c15 => k_is)
    (case k15 => k_is)
    (case a16 => k_is)
    (case l16 => k_is)
    (case c16 => k_is)
    (case k16 => k_is)
    (case a17 => k_is)
    (case l17 => k_is)
    (case c17 => k_is)
    (case k17 => k_is)
    (case a18 => k_is)
    (case l18 => k_is)
    (case c18 => k_is)
    (case k18 => k_is)
    (case a19 => k_is)
    (case l19 => k_is)
    (case c19 => k_is)
    (case k19 => k_is)
    (case a20 => k_is)
    (case l20 => k_is)
    (case c20 => k_is)
    (case k20 => k_is)
    (case a21 => k_is)
    (case l21 => k_is)
    (case c21 => k_is)
    (case k21 => k_is)
    (case a22 => k_is)
    (case l22 => k_is)
    (case c22 => k_is)
    (case k22 => k_is)
    (case a23 => k_is)
    (case l23 => k_is)
    (case c23 => k_is)
    (case k23 => k_is)
    (case a24 => k_is)
    (case l24 => k_is)
    (case c24 => k_is)
    (case k24 => k_is)
    (case a25 => k_is)
    (case l25 => k_is)
    (case c25 => k_is)
    (case k25 => k_is)
    (case a26 => k_is)
    (case l26 => k_is)
    (case c26 => k_is)
    (case k26 => k_is)
    (case a27 => k_is)
    (case l27 => k_is)
    (case c27 => k_is)
    (case k27 => k_is)
    (case a28 => k_is)
    (case l28 => k_is)
    (case c28 => k_is)
    (case k28 => k_is)
    (case a29 => k_is)
    (case l29 => k_is)
    (case c29 => k_is)
    (case k29 => k_is)
    (case a30 => k_is)
    (case l30 => k_is)
    (case c30 => k_is)
    (case k30 => k_is)
    (case a31 => k_is)
    (case l31 => k_is)
    (case c31 => k_is)
    (case k31 => k_is)
    (case a32 => k_is)
    (case l32 => k_is)
    (case c32 => k_is)
    (case k32 => k_is)
    (case a33 => k_is)
    (case l33 => k_is)
    (case c33 => k_is)
    (case k33 => k_is)
    (case a34 => k_is)
    (case l34 => k_is)
    (case c34 => k_is)
    (case k34 => k_is)
    (case a35 => k_is)
    (case l35 => k_is)
    (case c35 => k_is)
    (case k35 => k_is)
    (case a36 => k_is)
    (case l36 => k_is)
    (case c36 => k_is)
    (case k36 => k_is)
    (case a37 => k_is)
    (case l37 => k_is)
    (case c37 => k_is)
    (case k37 => k_is)
    (case xa0 => k_is)
    (case xp0 => k_exc)
    (case xk0 => k_is)
    (case xb0 => k_is)
    (case xt0 => k_is)
    (case xa1 => k_is)
    (case xp1 => k_exc)
    (case xk1 => k_is)
    (case xb1 => k_is)
    (case xt1 => k_is)
    (case xa2 => k_is)
    (case xp2 => k_exc)
    (case xk2 => k_is)
    (case xb2 => k_is)
    (case xt2 => k_is)
    (case xa3 => k_is)
    (case xp3 => k_exc)
    (case xk3 => k_is)
    (case xb3 => k_is)
    (case xt3 => k_is)
    (case xa4 => k_is)
    (case xp4 => k_exc)
    (case xk4 => k_is)
    (case xb4 => k_is)
    (case xt4 => k_is)
    (case xa5 => k_is)
    (case xp5 => k_exc)
    (case xk5 => k_is)
    (case xb5 => k_is)
    (case xt5 => k_is)
    (case ca0 => k_is)
    (case z0 => k_is)
    (case z1 => k_is)
    (case z2 => k_is)
    (case z3 => k_is)
    (case z4 => k_is)
    (case z5 => k_is)
    (case z6 => k_is)
    (case z7 => k_is)
    (case z8 => k_is)
    (case z9 => k_is)
    (case z10 => k_is)
    (case z11 => k_is)
    (case z12 => k_is)
    (case A0 => k_is)
    (case L0 => k_is)
    (case C0 => k_is)
    (case K0 => k_is)
    (case xs4_4 => k_is)
    (case xs3_4 => k_is)
    (case xs3_3 => k_is)
    (case xs5_4 => k_is)
    (case xs5_3 => k_is)
    (case xs5_5 => k_is)
    (case xd3 => k_is)
    (case xd4 => k_is)
    (case xd5 => k_is)
    (case ti37 => rfl)
    (case tg37 => exact hT8 _ List.mem_cons_self)
    (case th37 => first | kernel_rfl | decide +kernel)
    (case tn37 => first | kernel_rfl | decide +kernel)
