import PyProof.Rows.All
import Wide.All
import OpenK.AllK
import Wide.FinOn
import PySem.Challenge.RW_pc0210_01
open PySem PySem.W PyProof.Rows
set_option Elab.async false
set_option maxRecDepth 100000
set_option linter.all false
set_option genSizeOf false
set_option genInjectivity false
set_option tactic.hygienic false
set_option compiler.extract_closed false
namespace Mine

/-! ## the abstract machine: tuples are data; lists, dicts, instances stand in a local store -/

/-- the strings that the program's text bears, by number -/
noncomputable def theTexts : List Str := [
  ⟨#[101, 120, 112, 114]⟩,
  ⟨#[]⟩,
  ⟨#[115, 121, 109]⟩,
  ⟨#[102, 117, 110, 99, 116, 105, 111, 110]⟩,
  ⟨#[45, 62]⟩,
  ⟨#[100, 111]⟩,
  ⟨#[108, 101, 116]⟩,
  ⟨#[102, 111, 114]⟩,
  ⟨#[119, 104, 105, 108, 101]⟩,
  ⟨#[116, 114, 121]⟩,
  ⟨#[99, 111, 109, 112, 114, 101, 104, 101, 110, 115, 105, 111, 110]⟩,
  ⟨#[103, 101, 110, 101, 114, 97, 116, 111, 114]⟩,
  ⟨#[109, 97, 99, 114, 111]⟩,
  ⟨#[113, 117, 111, 116, 101]⟩,
  ⟨#[101, 115, 99, 97, 112, 101]⟩,
  ⟨#[115, 116, 114, 117, 99, 116]⟩,
  ⟨#[97, 98, 115, 116, 114, 97, 99, 116]⟩,
  ⟨#[103, 101, 110, 101, 114, 97, 116, 101, 100]⟩,
  ⟨#[43, 61]⟩,
  ⟨#[45, 61]⟩,
  ⟨#[42, 61]⟩,
  ⟨#[47, 47, 61]⟩,
  ⟨#[37, 61]⟩,
  ⟨#[124, 61]⟩,
  ⟨#[38, 61]⟩,
  ⟨#[112, 111, 112]⟩,
  ⟨#[101, 120, 116, 101, 110, 100]⟩,
  ⟨#[61]⟩,
  ⟨#[108, 111, 99, 97, 108]⟩,
  ⟨#[103, 108, 111, 98, 97, 108]⟩,
  ⟨#[109, 97, 110, 121]⟩,
  ⟨#[97, 112, 112, 101, 110, 100]⟩,
  ⟨#[115, 117, 112, 112, 108, 121]⟩,
  ⟨#[110, 101, 120, 116]⟩,
  ⟨#[102, 114, 101, 115, 104]⟩,
  ⟨#[111, 102]⟩,
  ⟨#[111, 112, 101, 110, 101, 100]⟩,
  ⟨#[97, 32, 109, 97, 99, 114, 111, 32, 116, 101, 108, 108, 115, 32, 97, 32, 116, 114, 101, 101, 32, 116, 104, 97, 116, 32, 105, 115, 32, 110, 101, 115, 116, 101, 100, 32, 116, 111, 111, 32, 100, 101, 101, 112]⟩,
  ⟨#[115, 99, 111, 112, 101]⟩,
  ⟨#[46]⟩,
  ⟨#[107, 119]⟩,
  ⟨#[109, 97, 99, 114, 111, 99, 97, 108, 108]⟩,
  ⟨#[110, 97, 109, 101, 100]⟩,
  ⟨#[97, 108, 108, 95, 111, 102]⟩,
  ⟨#[103, 101, 116]⟩,
  ⟨#[107, 101, 112, 116]⟩,
  ⟨#[98, 111, 100, 121]⟩,
  ⟨#[118, 97, 108, 117, 101]⟩,
  ⟨#[116, 114, 101, 101]⟩,
  ⟨#[36]⟩,
  ⟨#[97, 32, 36, 32, 112, 117, 116, 115, 32, 105, 110, 32, 111, 110, 101, 32, 116, 104, 105, 110, 103]⟩,
  ⟨#[99, 97, 108, 108]⟩,
  ⟨#[46, 46, 46]⟩,
  ⟨#[119, 104, 97, 116, 32, 105, 115, 32, 112, 117, 116, 32, 105, 110, 32, 112, 97, 114, 116, 32, 98, 121, 32, 112, 97, 114, 116, 32, 115, 116, 97, 110, 100, 115, 32, 119, 105, 116, 104, 105, 110, 32, 97, 32, 116, 114, 101, 101]⟩,
  ⟨#[109, 97, 99, 114, 111, 115]⟩,
  ⟨#[102, 117, 101, 108]⟩,
  ⟨#[109, 97, 99, 114, 111, 115, 32, 116, 104, 97, 116, 32, 116, 101, 108, 108, 32, 101, 118, 101, 114, 32, 109, 111, 114, 101, 32, 111, 102, 32, 116, 104, 101, 109]⟩,
  ⟨#[110, 111, 32, 109, 97, 99, 114, 111, 32]⟩,
  ⟨#[97, 32, 36, 32, 115, 116, 97, 110, 100, 115, 32, 111, 117, 116, 115, 105, 100, 101, 32, 111, 102, 32, 113, 117, 111, 116, 101, 115]⟩,
  ⟨#[116, 111, 108, 100]⟩,
  ⟨#[115, 101, 116, 116, 108, 101, 100]⟩,
  ⟨#[114, 117, 110]⟩,
  ⟨#[64, 115, 97, 109, 101]⟩,
  ⟨#[64, 116, 119, 105, 99, 101]⟩,
  ⟨#[64, 102, 105, 114, 115, 116]⟩,
  ⟨#[64, 111, 116, 104, 101, 114]⟩,
  ⟨#[64, 119, 111, 114, 100]⟩,
  ⟨#[64, 101, 118, 101, 114]⟩,
  ⟨#[98, 108, 111, 99, 107]⟩,
  ⟨#[103]⟩,
  ⟨#[97]⟩,
  ⟨#[105, 110, 116]⟩,
  ⟨#[102]⟩,
  ⟨#[64, 110, 111, 110, 101]⟩]
noncomputable def nStr : Nat := 74
noncomputable def S (k : Nat) : Str := theTexts.getD k ⟨#[]⟩
noncomputable def codeOf (x : Str) : Option Nat := theTexts.findIdx? (· == x)

inductive PV where
  | con (v : Value)
  | int (i : Int)
  | str (k : Nat)
  | any
  | scr
  | cal (k : Nat)
  | fnc (a : Nat)
  | cls (a : Nat)
  | tup (l : List PV)

inductive MV where
  | p (x : PV)
  | loc (i : Nat)
  | mt (l : List MV)

inductive MO where
  | lst (l : List PV)
  | dct (es : List (Nat × MV))
  | inst (C : Nat) (d : Nat)
  | fn (k : Nat)

set_option genInjectivity true in
structure AS where
  ρ : List (Option MV)
  σ : List MO

@[reducible] noncomputable def mB (b : Bool) : MV := .p (.con (.bool b))
@[reducible] noncomputable def mI (i : Int) : MV := .p (.int i)
@[reducible] noncomputable def mS (k : Nat) : MV := .p (.str k)
@[reducible] noncomputable def mN : MV := .p (.con .none)

mutual
/-- ints, strings and tuples of these alone -/
noncomputable def isData : PV → Bool := fun y1_ => match y1_ with
  | .int _ | .str _ => true
  | .tup l => areData l
  | z1_ => false
noncomputable def areData : List PV → Bool := fun y1_ => match y1_ with
  | [] => true
  | x :: xs => isData x && areData xs
end

/-! ### references to the store -/
mutual
noncomputable def refsV : MV → List Nat := fun y1_ => match y1_ with
  | .p z1_ => []
  | .loc i => [i]
  | .mt l => refsVs l
noncomputable def refsVs : List MV → List Nat := fun y1_ => match y1_ with
  | [] => []
  | v :: vs => refsV v ++ refsVs vs
end
noncomputable def refsEs : List (Nat × MV) → List Nat := fun y1_ => match y1_ with
  | [] => []
  | (z1_, v) :: r => refsV v ++ refsEs r
noncomputable def refsO : MO → List Nat := fun y1_ => match y1_ with
  | .lst z1_ => []
  | .dct es => refsEs es
  | .inst z1_ d => [d]
  | .fn z1_ => []
mutual
noncomputable def renV (f : Nat → Nat) : MV → MV := fun y1_ => match y1_ with
  | .p x => .p x
  | .loc i => .loc (f i)
  | .mt l => .mt (renVs f l)
noncomputable def renVs (f : Nat → Nat) : List MV → List MV := fun y1_ => match y1_ with
  | [] => []
  | v :: vs => renV f v :: renVs f vs
end
noncomputable def renEs (f : Nat → Nat) : List (Nat × MV) → List (Nat × MV) := fun y1_ => match y1_ with
  | [] => []
  | (k, v) :: r => (k, renV f v) :: renEs f r
noncomputable def renO (f : Nat → Nat) : MO → MO := fun y1_ => match y1_ with
  | .lst l => .lst l
  | .dct es => .dct (renEs f es)
  | .inst C d => .inst C (f d)
  | .fn k => .fn k

noncomputable def addNew (l : List Nat) : List Nat → List Nat := fun y1_ => match y1_ with
  | [] => l
  | i :: r => addNew (if l.elem i then l else l ++ [i]) r
noncomputable def refsAt (σ : List MO) (i : Nat) : List Nat := match σ[i]? with
  | some o => refsO o
  | none => []
noncomputable def closeL (σ : List MO) : Nat → List Nat → List Nat := fun y1_ y2_ => match y1_, y2_ with
  | 0, l => l
  | n + 1, l => closeL σ n (addNew l (l.flatMap (refsAt σ)))
/-- what can be reached from the values, in the order in which it is met -/
@[irreducible] noncomputable def reach (σ : List MO) (l : List Nat) : List Nat := closeL σ 4 l
noncomputable def posIn (sel : List Nat) (i : Nat) : Nat := sel.findIdx (· == i)
noncomputable def pickO (σ : List MO) (sel : List Nat) : List Nat → List MO := fun y1_ => match y1_ with
  | [] => []
  | i :: r => (match σ[i]? with | some o => [renO (posIn sel) o] | none => []) ++ pickO σ sel r
/-- all is in the selection, and the selection is a selection -/
noncomputable def nodupB : List Nat → Bool := fun y1_ => match y1_ with
  | [] => true
  | i :: r => !(r.elem i) && nodupB r
noncomputable def selOk (σ : List MO) (sel : List Nat) : Bool :=
  nodupB sel && sel.all (fun i => decide (i < σ.length) && (refsAt σ i).all (fun j => sel.elem j))
noncomputable def refsR : List (Option MV) → List Nat := fun y1_ => match y1_ with
  | [] => []
  | some v :: r => refsV v ++ refsR r
  | none :: r => refsR r
/-- the locals that are kept; the others are forgotten -/
noncomputable def keepR (keep : List Nat) : Nat → List (Option MV) → List (Option MV) := fun y1_ y2_ => match y1_, y2_ with
  | z1_, [] => []
  | i, v :: r => (if keep.elem i then v else none) :: keepR keep (i + 1) r
noncomputable def renR (f : Nat → Nat) : List (Option MV) → List (Option MV) := fun y1_ => match y1_ with
  | [] => []
  | some v :: r => some (renV f v) :: renR f r
  | none :: r => none :: renR f r

/-- the state with the named locals alone, the store's first np objects in their places, and what can be reached, renumbered -/
@[irreducible] noncomputable def norm (np : Nat) (keep : List Nat) (vs : List MV) (c : AS) : Option (AS × List MV) :=
  let ρ := keepR keep 0 c.ρ
  let sel := reach c.σ (addNew (List.range np) (refsVs vs ++ refsR ρ))
  if selOk c.σ sel && (refsVs vs ++ refsR ρ).all (fun j => sel.elem j) && decide (sel.take np = List.range np) && decide (np ≤ sel.length) then
    some (⟨renR (posIn sel) ρ, pickO c.σ sel sel⟩, renVs (posIn sel) vs)
  else none

/-- what goes to a callee -/
@[irreducible] noncomputable def handOver (σ : List MO) (vs : List MV) : Option (List Nat × List MV × List MO) :=
  let sel := reach σ (addNew [] (refsVs vs))
  if selOk σ sel && (refsVs vs).all (fun j => sel.elem j) then some (sel, renVs (posIn sel) vs, pickO σ sel sel) else none
noncomputable def backId (sel : List Nat) (n : Nat) (i : Nat) : Nat := if i < sel.length then sel.getD i 0 else n + (i - sel.length)
noncomputable def putBack (f : Nat → Nat) : List MO → List Nat → List MO → List MO := fun y1_ y2_ y3_ => match y1_, y2_, y3_ with
  | σ, i :: is, o :: os => putBack f (σ.set i (renO f o)) is os
  | σ, z1_, z2_ => σ
/-- the caller's store behind the call -/
noncomputable def takeBack (σ : List MO) (sel : List Nat) (σp σn : List MO) : List MO :=
  putBack (backId sel σ.length) σ sel σp ++ σn.map (renO (backId sel σ.length))

/-! ### the small syntax -/
inductive BOp where | add | sub | mul | fdiv | mod | pow
inductive COp where | eq | ne | lt | le | gt | ge | isin | notin

inductive ME where
  | bad
  | con (v : Value)
  | int (i : Int)
  | str (k : Nat)
  | lv (i : Nat)
  | gl (k : Nat)
  | not (e : ME) | neg (e : ME) | and (a b : ME) | or (a b : ME) | ite (t a b : ME)
  | cmp (op : COp) (a b : ME)
  | bin (op : BOp) (a b : ME)
  | sub (a i : ME)
  | slc (a : ME) (lo hi : Option ME) (rev : Bool)
  | attr (o : ME) (k : Nat)
  | meth (o : ME) (k : Nat) (args : List ME)
  | call (f : ME) (args : List ME)
  | tup (es : List ME)
  | lst (es : List ME)
  | dct0
  | comp (tg : List Nat) (cap : List (Nat × Nat)) (ln : Nat) (elt : ME) (cond : Option ME) (src : ME)

inductive MS where
  | bad
  | asg (i : Nat) (e : ME)
  | asgT (is : List Nat) (e : ME)
  | setA (o : ME) (k : Nat) (e : ME)
  | setI (o i e : ME)
  | ex (e : ME)
  | iff (t : ME) (a b : List MS)
  | whl (t : ME) (b : List MS)
  | for_ (i : Nat) (it : ME) (b : List MS)
  | forR (i : Nat) (e : ME) (b : List MS)
  | ret (e : ME)
  | rai (e : ME)
  | cnt
  | tr (b h : List MS)

inductive Fl where
  | nxt | cnt | ret (v : MV)
noncomputable def Fl.val : Fl → MV := fun y1_ => match y1_ with
  | .ret v => v
  | z1_ => mN
end Mine
namespace Mine

/-- what a call of function number `a` gives: room, number, arguments, the store that they reach; behind it: the value, that store, what is new; or (if `X`) a MacroFault -/
abbrev Spec := Nat → Nat → List MV → List MO → (MV → List MO → List MO → Prop) → Prop → Prop

noncomputable def lim : Nat := 1000000

/-- the globals' values, by number -/
noncomputable def gList : List PV := [
  .cal 0, .cal 1, .cal 2, .cal 3, .cal 4, .cal 5, .cal 6, .cal 7, .tup [.str 3, .str 4, .str 5, .str 6, .str 7, .str 8, .str 9, .str 10, .str 11, .str 12, .str 13, .str 14, .str 15, .str 16, .str 17], .tup [.str 18, .str 19, .str 20, .str 21, .str 22, .str 23, .str 24], .int 120, .cls 162, .cls 280, .cls 371, .fnc 54, .fnc 61, .fnc 68, .fnc 75, .fnc 82, .fnc 103, .fnc 173, .fnc 291, .fnc 300, .fnc 314, .fnc 321, .fnc 326, .fnc 333, .fnc 383, .fnc 390, .fnc 397, .fnc 404, .fnc 411, .fnc 418, .fnc 425, .fnc 430, .fnc 435, .fnc 442]
noncomputable def gPV (k : Nat) : Option PV := gList[k]?

noncomputable def initL : List (Nat × Nat) := [(162, 152), (280, 187), (371, 347)]
noncomputable def initOf (C : Nat) : Option Nat := initL.lookup C
noncomputable def methL : List ((Nat × Nat) × Nat) := [((280, 34), 194), ((280, 36), 201), ((280, 46), 208), ((280, 43), 213), ((280, 35), 220), ((280, 42), 225), ((280, 45), 232), ((371, 59), 354), ((371, 60), 361), ((371, 61), 368)]
/-- the method of a class: class, name -/
noncomputable def methOf (C k : Nat) : Option Nat := methL.lookup (C, k)

noncomputable def nthI {α : Type} (l : List α) (k : Int) : Option α := if 0 ≤ k ∧ k ≤ lim then l[k.toNat]? else none
noncomputable def cutOf {α : Type} (lo hi : Option Int) (rev : Bool) (l : List α) : Option (List α) :=
  match lo, hi, rev with
  | none, none, true => some l.reverse
  | some a, none, false => if 0 ≤ a ∧ a ≤ l.length then some (l.drop a.toNat) else none
  | none, some b, false => if 0 ≤ b ∧ b ≤ l.length then some (l.take b.toNat) else none
  | z1_, z2_, z3_ => none
noncomputable def tupCut : Option Int → Option Int → Bool → Bool := fun y1_ y2_ y3_ => match y1_, y2_, y3_ with
  | none, none, true => true
  | some a, none, false => decide (1 ≤ a)
  | z1_, z2_, z3_ => false
noncomputable def vCut (σ : List MO) (lo hi : Option Int) (rev : Bool) : MV → Option (MV × List MO) := fun y1_ => match y1_ with
  | .p (.tup l) => if l.length ≤ lim ∧ tupCut lo hi rev = true then (cutOf lo hi rev l).map fun x => (.p (.tup x), σ) else none
  | .loc j => match σ[j]? with
    | some (.lst l) => if l.length ≤ lim then (cutOf lo hi rev l).map fun x => (.loc σ.length, σ ++ [.lst x]) else none
    | z1_ => none
  | z1_ => none
noncomputable def asInt : MV → Option Int := fun y1_ => match y1_ with
  | .p (.int i) => some i
  | z1_ => none

mutual
noncomputable def pvD : PV → PyData := fun y1_ => match y1_ with
  | .int i => .int i
  | .str k => .str (S k)
  | .tup l => .tuple (pvDs l)
  | z1_ => .none
noncomputable def pvDs : List PV → List PyData := fun y1_ => match y1_ with
  | [] => []
  | x :: xs => pvD x :: pvDs xs
end
noncomputable def flat (a b : List PV) : Bool := areData a && areData b && decide ((PyData.tuple (pvDs a)).depth ≤ 60) && decide ((PyData.tuple (pvDs b)).depth ≤ 60)
noncomputable def asStr : MV → Option Nat := fun y1_ => match y1_ with
  | .p (.str a) => some a
  | z1_ => none
noncomputable def asTup : MV → Option (List PV) := fun y1_ => match y1_ with
  | .p (.tup l) => some l
  | z1_ => none
noncomputable def isLst : MO → Option (List PV) := fun y1_ => match y1_ with
  | .lst l => some l
  | z1_ => none
noncomputable def isDct : MO → Option (List (Nat × MV)) := fun y1_ => match y1_ with
  | .dct es => some es
  | z1_ => none
/-- the object that a value stands for -/
noncomputable def objOf (σ : List MO) : MV → Option MO := fun y1_ => match y1_ with
  | .loc i => σ[i]?
  | z1_ => none
noncomputable def both {α β γ : Type} (f : α → β → Option γ) : Option α → Option β → Option γ := fun y1_ y2_ => match y1_, y2_ with
  | some a, some b => f a b
  | z1_, z2_ => none
noncomputable def orO {α : Type} : Option α → Option α → Option α := fun y1_ y2_ => match y1_, y2_ with
  | some b, z1_ => some b
  | none, o => o
noncomputable def thenO {α β : Type} (f : α → Option β) : Option α → Option β := fun y1_ => match y1_ with
  | some a => f a
  | none => none
noncomputable def lstAt (σ : List MO) (v : MV) : Option (List PV) := thenO isLst (objOf σ v)
noncomputable def dctAt (σ : List MO) (v : MV) : Option (List (Nat × MV)) := thenO isDct (objOf σ v)
noncomputable def strIn (k : Nat) : List PV → Option Bool := fun y1_ => match y1_ with
  | [] => some false
  | .str a :: r => (strIn k r).map fun b => (a == k) || b
  | z1_ => none
noncomputable def nilB (b : Bool) (l m : List PV) : Option Bool := if m.isEmpty then some (l.isEmpty == b) else none
noncomputable def cmpI (f : Int → Int → Bool) (v w : MV) : Option Bool := both (fun a b => some (f a b)) (asInt v) (asInt w)
noncomputable def cmpS (f : Nat → Nat → Bool) (v w : MV) : Option Bool := both (fun a b => some (f a b)) (asStr v) (asStr w)
noncomputable def neT (v w : MV) : Option Bool := both (fun a b => if flat a b then some (!PyData.eqvAll (pvDs a) (pvDs b)) else none) (asTup v) (asTup w)
noncomputable def cmpL (σ : List MO) (b : Bool) (v w : MV) : Option Bool := both (nilB b) (lstAt σ v) (lstAt σ w)
noncomputable def subP (ns : List Int) (k : Int) : PV → Option MV := fun y1_ => match y1_ with
  | .tup l => (nthI l k).map .p
  | .scr => (nthI ns k).map mI
  | z1_ => none
noncomputable def subI (ns : List Int) (σ : List MO) (k : Int) : MV → Option MV := fun y1_ => match y1_ with
  | .p x => subP ns k x
  | .mt l => nthI l k
  | .loc j => thenO (fun l => (nthI l k).map .p) (thenO isLst σ[j]?)
noncomputable def vSub (ns : List Int) (σ : List MO) (v w : MV) : Option MV := orO (thenO (fun k => subI ns σ k v) (asInt w)) (both (fun k es => es.lookup k) (asStr w) (dctAt σ v))
noncomputable def vCmp (σ : List MO) (op : COp) (v w : MV) : Option Bool := match op with
  | .eq => orO (cmpS (fun a b => a == b) v w) (orO (cmpI (fun a b => a == b) v w) (cmpL σ true v w))
  | .ne => orO (cmpS (fun a b => a != b) v w) (orO (cmpI (fun a b => a != b) v w) (orO (neT v w) (cmpL σ false v w)))
  | .lt => cmpI (fun a b => decide (a < b)) v w
  | .le => cmpI (fun a b => decide (a ≤ b)) v w
  | .gt => cmpI (fun a b => decide (a > b)) v w
  | .ge => cmpI (fun a b => decide (a ≥ b)) v w
  | .isin => both strIn (asStr v) (asTup w)
  | .notin => both (fun k es => some (!(es.lookup k).isSome)) (asStr v) (dctAt σ w)

noncomputable def small (a : Int) : Bool := decide (a.natAbs < 4611686018427387904)
noncomputable def binI (σ : List MO) (f : Int → Int → Option Int) (v w : MV) : Option (MV × List MO) := thenO (fun i => some (mI i, σ)) (both f (asInt v) (asInt w))
noncomputable def addT (σ : List MO) (v w : MV) : Option (MV × List MO) := both (fun a b => if !a.isEmpty && !b.isEmpty && decide (a.length + b.length ≤ lim) then some (.p (.tup (a ++ b)), σ) else none) (asTup v) (asTup w)
noncomputable def addS (σ : List MO) (v w : MV) : Option (MV × List MO) := both (fun z_ z_ => some (.p .any, σ)) (asStr v) (asStr w)
noncomputable def addL (σ : List MO) (v w : MV) : Option (MV × List MO) := both (fun a b => if a.length + b.length ≤ lim then some (.loc σ.length, σ ++ [.lst (a ++ b)]) else none) (lstAt σ v) (lstAt σ w)
noncomputable def vBin (σ : List MO) (op : BOp) (v w : MV) : Option (MV × List MO) := match op with
  | .add => orO (binI σ (fun a b => some (a + b)) v w) (orO (addT σ v w) (orO (addS σ v w) (addL σ v w)))
  | .sub => binI σ (fun a b => some (a - b)) v w
  | .mul => binI σ (fun a b => if small a && small b then some (a * b) else none) v w
  | .fdiv => binI σ (fun a b => if 0 < b ∧ b < 1000000 then some (Int.fdiv a b) else none) v w
  | .mod => binI σ (fun a b => if b > 0 then some (Int.fmod a b) else none) v w
  | .pow => binI σ (fun a b => if a = 10 ∧ b = 15 then some 1000000000000000 else none) v w
noncomputable def vTruth : MV → Option Bool := fun y1_ => match y1_ with
  | .p (.con (.bool b)) => some b
  | z1_ => none

noncomputable def allP : List MV → Option (List PV) := fun y1_ => match y1_ with
  | [] => some []
  | .p x :: r => (allP r).map (x :: ·)
  | z1_ :: z2_ => none
noncomputable def mkTup (vs : List MV) : MV := match allP vs with
  | some l => .p (.tup l)
  | none => .mt vs

noncomputable def allB : List PV → Option Bool := fun y1_ => match y1_ with
  | [] => some true
  | .con (.bool b) :: r => (allB r).map fun x => b && x
  | z1_ :: z2_ => none

noncomputable def asBool : MV → Option Bool := fun y1_ => match y1_ with
  | .p (.con (.bool b)) => some b
  | z1_ => none
noncomputable def asScr : MV → Option Unit := fun y1_ => match y1_ with
  | .p .scr => some ()
  | z1_ => none
noncomputable def isNil {α : Type} : List α → Option Unit := fun y1_ => match y1_ with
  | [] => some ()
  | z1_ => none
noncomputable def ifO {α : Type} (c : Prop) [Decidable c] (a : α) : Option α := if c then some a else none
noncomputable def pTuple (σ : List MO) (v : MV) : Option (MV × List MO) := orO (thenO (fun l => some (.p (.tup l), σ)) (asTup v)) (thenO (fun l => ifO (l.length ≤ lim) (.p (.tup l), σ)) (lstAt σ v))
noncomputable def newL (σ : List MO) (l : List PV) : Option (MV × List MO) := ifO (l.length ≤ lim) (.loc σ.length, σ ++ [.lst l])
noncomputable def pList (σ : List MO) (v : MV) : Option (MV × List MO) := orO (thenO (newL σ) (asTup v)) (thenO (newL σ) (lstAt σ v))
noncomputable def pDict (σ : List MO) (v : MV) : Option (MV × List MO) := thenO (fun z_ => some (.loc σ.length, σ ++ [.dct []])) (thenO isNil (dctAt σ v))
noncomputable def pInt (σ : List MO) (v : MV) : Option (MV × List MO) := thenO (fun b => some (mI (if b then 1 else 0), σ)) (asBool v)
noncomputable def lenO (σ : List MO) (l : List PV) : Option (MV × List MO) := ifO (l.length ≤ lim) (mI l.length, σ)
noncomputable def pLen (ns : List Int) (σ : List MO) (v : MV) : Option (MV × List MO) := orO (thenO (lenO σ) (asTup v)) (orO (thenO (lenO σ) (lstAt σ v)) (thenO (fun z_ => some (mI ns.length, σ)) (asScr v)))
noncomputable def pAll (σ : List MO) (v : MV) : Option (MV × List MO) := thenO (fun b => some (mB b, σ)) (thenO allB (lstAt σ v))
/-- a call of a built-in -/
noncomputable def vPrim (ns : List Int) (σ : List MO) (k : Nat) (vs : List MV) : Option (MV × List MO) :=
  match vs with
  | [v] => match k with
    | 0 => pTuple σ v
    | 1 => pList σ v
    | 2 => pDict σ v
    | 3 => pInt σ v
    | 4 => pLen ns σ v
    | 5 => pAll σ v
    | z1_ => none
  | [v, w] => if k = 6 then binI σ (fun a b => some (max a b)) v w else if k = 7 then binI σ (fun a b => some (min a b)) v w else none
  | z1_ => none

inductive MK where | app | pop | ext | get | fn (a : Nat)
noncomputable def methKind (σ : List MO) (ov : MV) (k : Nat) : Option MK :=
  match ov with
  | .loc j => match σ[j]? with
    | some (.lst z1_) => if k = 31 then some .app else if k = 25 then some .pop else if k = 26 then some .ext else none
    | some (.dct z1_) => if k = 44 then some .get else none
    | some (.inst C d) => match σ[d]? with
      | some (.dct es) => if (es.lookup k).isNone then (methOf C k).map .fn else none
      | z1_ => none
    | z1_ => none
  | z1_ => none
noncomputable def asLoc : MV → Option Nat := fun y1_ => match y1_ with
  | .loc j => some j
  | z1_ => none
noncomputable def oneP : List MV → Option PV := fun y1_ => match y1_ with
  | [.p x] => some x
  | z1_ => none
noncomputable def oneT : List MV → Option (List PV) := fun y1_ => match y1_ with
  | [.p (.tup xs)] => some xs
  | z1_ => none
noncomputable def vApp (σ : List MO) (ov : MV) (vs : List MV) : Option (MV × List MO) := both (fun j x => thenO (fun l => ifO (l.length ≤ lim) (mN, σ.set j (.lst (l ++ [x])))) (lstAt σ ov)) (asLoc ov) (oneP vs)
noncomputable def vPop (σ : List MO) (ov : MV) (vs : List MV) : Option (MV × List MO) := both (fun j z_ => thenO (fun l => if l.length ≤ lim then l.getLast?.map fun x => (.p x, σ.set j (.lst l.dropLast)) else none) (lstAt σ ov)) (asLoc ov) (isNil vs)
noncomputable def vExt (σ : List MO) (ov : MV) (vs : List MV) : Option (MV × List MO) := both (fun j xs => thenO (fun l => ifO (l.length + xs.length ≤ lim) (mN, σ.set j (.lst (l ++ xs)))) (lstAt σ ov)) (asLoc ov) (oneT vs)
noncomputable def vGet (σ : List MO) (ov : MV) (vs : List MV) : Option (MV × List MO) := match vs with
  | [u, v] => both (fun k z_ => ifO (k < nStr) (v, σ)) (asStr u) (thenO isNil (dctAt σ ov))
  | z1_ => none
noncomputable def vMeth (σ : List MO) (m : MK) (ov : MV) (vs : List MV) : Option (MV × List MO) := match m with
  | .app => vApp σ ov vs
  | .pop => vPop σ ov vs
  | .ext => vExt σ ov vs
  | .get => vGet σ ov vs
  | .fn z1_ => none

noncomputable def putEs (k : Nat) (v : MV) : List (Nat × MV) → List (Nat × MV) := fun y1_ => match y1_ with
  | [] => [(k, v)]
  | (k', v') :: r => if k' = k then (k', v) :: r else (k', v') :: putEs k v r
/-- a class of the text, a name of its instances -/
noncomputable def hasA (C k : Nat) : Bool := (C == 162 || C == 280 || C == 371) && (k == 30 || k == 32 || k == 54 || k == 55)
noncomputable def vGetA (σ : List MO) (k : Nat) : MV → Option MV := fun y1_ => match y1_ with
  | .loc j => match σ[j]? with
    | some (.inst C d) => match σ[d]? with
      | some (.dct es) => if hasA C k then es.lookup k else none
      | z1_ => none
    | z1_ => none
  | z1_ => none
noncomputable def vSetA (σ : List MO) (k : Nat) (v : MV) : MV → Option (List MO) := fun y1_ => match y1_ with
  | .loc j => match σ[j]? with
    | some (.inst C d) => match σ[d]? with
      | some (.dct es) => if es.length ≤ 100 ∧ hasA C k = true then some (σ.set d (.dct (putEs k v es))) else none
      | z1_ => none
    | z1_ => none
  | z1_ => none
noncomputable def vSetI (σ : List MO) : MV → MV → MV → Option (List MO) := fun y1_ y2_ y3_ => match y1_, y2_, y3_ with
  | .loc j, .p (.int k), .p x => match σ[j]? with
    | some (.lst l) => if 0 ≤ k ∧ k < l.length ∧ k ≤ lim then some (σ.set j (.lst (l.set k.toNat x))) else none
    | z1_ => none
  | z1_, z2_, z3_ => none

noncomputable def capR (ρ : List (Option MV)) (cap : List (Nat × Nat)) (ln : Nat) : List (Option MV) :=
  cap.foldl (fun r p => r.set p.2 (ρ.getD p.1 none)) (List.replicate ln none)
noncomputable def pairOf : PV → Option (PV × PV) := fun y1_ => match y1_ with
  | .tup [x, y] => some (x, y)
  | z1_ => none
noncomputable def bindTg (ρ : List (Option MV)) (tg : List Nat) (x : PV) : Option (List (Option MV)) := match tg with
  | [i] => some (ρ.set i (some (.p x)))
  | [i, j] => thenO (fun p => some ((ρ.set i (some (.p p.1))).set j (some (.p p.2)))) (pairOf x)
  | z1_ => none
/-- what a loop goes over -/
noncomputable def iterOf (σ : List MO) : MV → Option (List PV) := fun y1_ => match y1_ with
  | .p (.tup l) => some l
  | .loc j => match σ[j]? with
    | some (.lst l) => some l
    | z1_ => none
  | z1_ => none
noncomputable def stillAt (v : MV) (σ σ' : List MO) : Prop := match v with
  | .loc j => iterOf σ' (.loc j) = iterOf σ (.loc j)
  | z1_ => True

noncomputable def onP {α : Type} (o : Option α) (Q : α → Prop) : Prop := match o with
  | some a => Q a
  | none => False

/-- a call of a function of the text -/
noncomputable def vcFn (Sp : Spec) (r a : Nat) (vs : List MV) (X : Prop) (c : AS) (Q : MV → AS → Prop) : Prop :=
  onP (handOver c.σ vs) fun q => Sp r a q.2.1 q.2.2 (fun v σp' σn => Q (renV (backId q.1 c.σ.length) v) ⟨c.ρ, takeBack c.σ q.1 σp' σn⟩) X

noncomputable def vcCall (Sp : Spec) (r : Nat) (ns : List Int) (f : MV) (vs : List MV) (X : Prop) (c : AS) (Q : MV → AS → Prop) : Prop :=
  match f with
  | .p (.cal k) => onP (vPrim ns c.σ k vs) fun q => Q q.1 ⟨c.ρ, q.2⟩
  | .p (.fnc a) => a < 1000 ∧ vcFn Sp r a vs X c Q
  | .p (.cls C) => onP (initOf C) fun ini => 3 ≤ r ∧
      vcFn Sp (r - 3) ini (.loc (c.σ.length + 1) :: vs) False ⟨c.ρ, c.σ ++ [.dct [], .inst C c.σ.length]⟩ fun v c' => v = mN ∧ Q (.loc (c.σ.length + 1)) c'
  | .loc j => match c.σ[j]? with
    | some (.fn k) => vcFn Sp r (1000 + k) vs X c Q
    | z1_ => False
  | z1_ => False

/-- the turns of a comprehension: the block's state, the list so far at place `a` -/
noncomputable def vcComp (f : AS → (MV → AS → Prop) → Prop) (t : AS → (Bool → AS → Prop) → Prop) (chk : List MO → Prop) (tg : List Nat) (a : Nat) : List PV → AS → (AS → Prop) → Prop := fun y1_ y2_ y3_ => match y1_, y2_, y3_ with
  | [], c, Q => Q c
  | x :: xs, c, Q => onP (bindTg c.ρ tg x) fun ρ' => t ⟨ρ', c.σ⟩ fun b c₁ =>
      if b then f c₁ fun v c₂ => match v, c₂.σ[a]? with
        | .p y, some (.lst ys) => ys.length ≤ lim ∧ chk (c₂.σ.set a (.lst (ys ++ [y]))) ∧ vcComp f t chk tg a xs ⟨c₂.ρ, c₂.σ.set a (.lst (ys ++ [y]))⟩ Q
        | z1_, z2_ => False
      else chk c₁.σ ∧ vcComp f t chk tg a xs c₁ Q

/-- an expression's value, and its truth by the value's -/
@[reducible] noncomputable def dflt (E : AS → (MV → AS → Prop) → Prop) : (AS → (MV → AS → Prop) → Prop) × (AS → (Bool → AS → Prop) → Prop) :=
  (E, fun c Q => E c fun v c₁ => onP (vTruth v) fun b => Q b c₁)

mutual
noncomputable def vcX (Sp : Spec) (r : Nat) (ns : List Int) (X : Prop) : ME → (AS → (MV → AS → Prop) → Prop) × (AS → (Bool → AS → Prop) → Prop) := fun y1_ => match y1_ with
  | .bad => dflt fun z_ z_ => False
  | .con v => dflt fun c Q => Q (.p (.con v)) c
  | .int i => dflt fun c Q => Q (mI i) c
  | .str k => dflt fun c Q => Q (mS k) c
  | .lv i => dflt fun c Q => onP (c.ρ.getD i none) fun v => Q v c
  | .gl k => dflt fun c Q => onP (gPV k) fun x => Q (.p x) c
  | .not e => (fun c Q => (vcX Sp r ns X e).1 c fun v c₁ => onP (vTruth v) fun b => Q (mB (!b)) c₁, fun c Q => (vcX Sp r ns X e).2 c fun b c₁ => Q (!b) c₁)
  | .neg e => dflt fun c Q => (vcX Sp r ns X e).1 c fun v c₁ => onP (asInt v) fun i => Q (mI (-i)) c₁
  | .and a b => (fun c Q => (vcX Sp r ns X a).1 c fun v c₁ => onP (vTruth v) fun t => if t then (vcX Sp r ns X b).1 c₁ Q else Q v c₁,
      fun c Q => (vcX Sp r ns X a).2 c fun t c₁ => if t then (vcX Sp r ns X b).2 c₁ Q else Q false c₁)
  | .or a b => (fun c Q => (vcX Sp r ns X a).1 c fun v c₁ => onP (vTruth v) fun t => if t then Q v c₁ else (vcX Sp r ns X b).1 c₁ Q,
      fun c Q => (vcX Sp r ns X a).2 c fun t c₁ => if t then Q true c₁ else (vcX Sp r ns X b).2 c₁ Q)
  | .ite t a b => (fun c Q => (vcX Sp r ns X t).2 c fun x c₁ => if x then (vcX Sp r ns X a).1 c₁ Q else (vcX Sp r ns X b).1 c₁ Q,
      fun c Q => (vcX Sp r ns X t).2 c fun x c₁ => if x then (vcX Sp r ns X a).2 c₁ Q else (vcX Sp r ns X b).2 c₁ Q)
  | .cmp op a b => dflt fun c Q => (vcX Sp r ns X a).1 c fun v c₁ => (vcX Sp r ns X b).1 c₁ fun w c₂ => onP (vCmp c₂.σ op v w) fun t => Q (mB t) c₂
  | .bin op a b => dflt fun c Q => (vcX Sp r ns X a).1 c fun v c₁ => (vcX Sp r ns X b).1 c₁ fun w c₂ => onP (vBin c₂.σ op v w) fun q => Q q.1 ⟨c₂.ρ, q.2⟩
  | .sub a i => dflt fun c Q => (vcX Sp r ns X a).1 c fun v c₁ => (vcX Sp r ns X i).1 c₁ fun w c₂ => onP (vSub ns c₂.σ v w) fun q => Q q c₂
  | .slc a lo hi rev => dflt fun c Q => (vcX Sp r ns X a).1 c fun v c₁ => vcO Sp r ns X lo c₁ fun x c₂ => vcO Sp r ns X hi c₂ fun y c₃ =>
      onP (vCut c₃.σ x y rev v) fun q => Q q.1 ⟨c₃.ρ, q.2⟩
  | .attr o k => dflt fun c Q => (vcX Sp r ns X o).1 c fun v c₁ => onP (vGetA c₁.σ k v) fun q => Q q c₁
  | .meth o k args => dflt fun c Q => (vcX Sp r ns X o).1 c fun ov c₁ => onP (methKind c₁.σ ov k) fun m => vcL Sp r ns X args c₁ fun vs c₂ =>
      match m with
      | .fn a => vcFn Sp r a (ov :: vs) X c₂ Q
      | m => onP (vMeth c₂.σ m ov vs) fun q => Q q.1 ⟨c₂.ρ, q.2⟩
  | .call f args => dflt fun c Q => (vcX Sp r ns X f).1 c fun fv c₁ => vcL Sp r ns X args c₁ fun vs c₂ => vcCall Sp r ns fv vs X c₂ Q
  | .tup es => dflt fun c Q => vcL Sp r ns X es c fun vs c₁ => vs.length ≤ lim ∧ Q (mkTup vs) c₁
  | .lst es => dflt fun c Q => vcL Sp r ns X es c fun vs c₁ => onP (allP vs) fun l => l.length ≤ lim ∧ Q (.loc c₁.σ.length) ⟨c₁.ρ, c₁.σ ++ [.lst l]⟩
  | .dct0 => dflt fun c Q => Q (.loc c.σ.length) ⟨c.ρ, c.σ ++ [.dct []]⟩
  | .comp tg cap ln elt cond src => dflt fun c Q => (vcX Sp r ns X src).1 c fun v c₁ => onP (iterOf c₁.σ v) fun l => l.length ≤ lim ∧
      vcComp (vcX Sp r ns False elt).1 (vcC Sp r ns False cond) (stillAt v c₁.σ) tg c₁.σ.length l
        ⟨capR c₁.ρ cap ln, c₁.σ ++ [.lst []]⟩ fun c₂ => Q (.loc c₁.σ.length) ⟨c₁.ρ, c₂.σ⟩
noncomputable def vcL (Sp : Spec) (r : Nat) (ns : List Int) (X : Prop) : List ME → AS → (List MV → AS → Prop) → Prop := fun y1_ y2_ y3_ => match y1_, y2_, y3_ with
  | [], c, Q => Q [] c
  | e :: es, c, Q => (vcX Sp r ns X e).1 c fun v c₁ => vcL Sp r ns X es c₁ fun vs c₂ => Q (v :: vs) c₂
noncomputable def vcO (Sp : Spec) (r : Nat) (ns : List Int) (X : Prop) : Option ME → AS → (Option Int → AS → Prop) → Prop := fun y1_ y2_ y3_ => match y1_, y2_, y3_ with
  | none, c, Q => Q none c
  | some e, c, Q => (vcX Sp r ns X e).1 c fun v c₁ => onP (asInt v) fun i => Q (some i) c₁
noncomputable def vcC (Sp : Spec) (r : Nat) (ns : List Int) (X : Prop) : Option ME → AS → (Bool → AS → Prop) → Prop := fun y1_ y2_ y3_ => match y1_, y2_, y3_ with
  | none, c, Q => Q true c
  | some e, c, Q => (vcX Sp r ns X e).2 c Q
end
noncomputable def vcE (Sp : Spec) (r : Nat) (ns : List Int) (X : Prop) (e : ME) : AS → (MV → AS → Prop) → Prop := (vcX Sp r ns X e).1
noncomputable def vcT (Sp : Spec) (r : Nat) (ns : List Int) (X : Prop) (e : ME) : AS → (Bool → AS → Prop) → Prop := (vcX Sp r ns X e).2

section
variable {Sp : Spec} {r : Nat} {ns : List Int} {X : Prop} {c : AS} {Q : MV → AS → Prop} {B : Bool → AS → Prop}
theorem E_con (v) : vcE Sp r ns X (.con v) c Q = Q (.p (.con v)) c := rfl
theorem E_int (i) : vcE Sp r ns X (.int i) c Q = Q (mI i) c := rfl
theorem E_str (k) : vcE Sp r ns X (.str k) c Q = Q (mS k) c := rfl
theorem E_lv (i) : vcE Sp r ns X (.lv i) c Q = onP (c.ρ.getD i none) fun v => Q v c := rfl
theorem E_gl (k) : vcE Sp r ns X (.gl k) c Q = onP (gPV k) fun x => Q (.p x) c := rfl
theorem E_not (e) : vcE Sp r ns X (.not e) c Q = vcE Sp r ns X e c fun v c₁ => onP (vTruth v) fun b => Q (mB (!b)) c₁ := rfl
theorem E_neg (e) : vcE Sp r ns X (.neg e) c Q = vcE Sp r ns X e c fun v c₁ => onP (asInt v) fun i => Q (mI (-i)) c₁ := rfl
theorem E_and (a b) : vcE Sp r ns X (.and a b) c Q = vcE Sp r ns X a c fun v c₁ => onP (vTruth v) fun t => if t then vcE Sp r ns X b c₁ Q else Q v c₁ := rfl
theorem E_or (a b) : vcE Sp r ns X (.or a b) c Q = vcE Sp r ns X a c fun v c₁ => onP (vTruth v) fun t => if t then Q v c₁ else vcE Sp r ns X b c₁ Q := rfl
theorem E_ite (t a b) : vcE Sp r ns X (.ite t a b) c Q = vcT Sp r ns X t c fun x c₁ => if x then vcE Sp r ns X a c₁ Q else vcE Sp r ns X b c₁ Q := rfl
theorem E_cmp (op a b) : vcE Sp r ns X (.cmp op a b) c Q = vcE Sp r ns X a c fun v c₁ => vcE Sp r ns X b c₁ fun w c₂ => onP (vCmp c₂.σ op v w) fun t => Q (mB t) c₂ := rfl
theorem E_bin (op a b) : vcE Sp r ns X (.bin op a b) c Q = vcE Sp r ns X a c fun v c₁ => vcE Sp r ns X b c₁ fun w c₂ => onP (vBin c₂.σ op v w) fun q => Q q.1 ⟨c₂.ρ, q.2⟩ := rfl
theorem E_sub (a i) : vcE Sp r ns X (.sub a i) c Q = vcE Sp r ns X a c fun v c₁ => vcE Sp r ns X i c₁ fun w c₂ => onP (vSub ns c₂.σ v w) fun q => Q q c₂ := rfl
theorem E_slc (a lo hi rev) : vcE Sp r ns X (.slc a lo hi rev) c Q = vcE Sp r ns X a c fun v c₁ => vcO Sp r ns X lo c₁ fun x c₂ => vcO Sp r ns X hi c₂ fun y c₃ =>
      onP (vCut c₃.σ x y rev v) fun q => Q q.1 ⟨c₃.ρ, q.2⟩ := rfl
theorem E_attr (o k) : vcE Sp r ns X (.attr o k) c Q = vcE Sp r ns X o c fun v c₁ => onP (vGetA c₁.σ k v) fun q => Q q c₁ := rfl
theorem E_meth (o k args) : vcE Sp r ns X (.meth o k args) c Q = vcE Sp r ns X o c fun ov c₁ => onP (methKind c₁.σ ov k) fun m => vcL Sp r ns X args c₁ fun vs c₂ =>
      match m with
      | .fn a => vcFn Sp r a (ov :: vs) X c₂ Q
      | m => onP (vMeth c₂.σ m ov vs) fun q => Q q.1 ⟨c₂.ρ, q.2⟩ := rfl
theorem E_call (f args) : vcE Sp r ns X (.call f args) c Q = vcE Sp r ns X f c fun fv c₁ => vcL Sp r ns X args c₁ fun vs c₂ => vcCall Sp r ns fv vs X c₂ Q := rfl
theorem E_tup (es) : vcE Sp r ns X (.tup es) c Q = vcL Sp r ns X es c fun vs c₁ => vs.length ≤ lim ∧ Q (mkTup vs) c₁ := rfl
theorem E_lst (es) : vcE Sp r ns X (.lst es) c Q = vcL Sp r ns X es c fun vs c₁ => onP (allP vs) fun l => l.length ≤ lim ∧ Q (.loc c₁.σ.length) ⟨c₁.ρ, c₁.σ ++ [.lst l]⟩ := rfl
theorem E_dct0 : vcE Sp r ns X .dct0 c Q = Q (.loc c.σ.length) ⟨c.ρ, c.σ ++ [.dct []]⟩ := rfl
theorem E_comp (tg cap ln elt cond src) : vcE Sp r ns X (.comp tg cap ln elt cond src) c Q = vcE Sp r ns X src c fun v c₁ => onP (iterOf c₁.σ v) fun l => l.length ≤ lim ∧
      vcComp (vcE Sp r ns False elt) (vcC Sp r ns False cond) (stillAt v c₁.σ) tg c₁.σ.length l
        ⟨capR c₁.ρ cap ln, c₁.σ ++ [.lst []]⟩ fun c₂ => Q (.loc c₁.σ.length) ⟨c₁.ρ, c₂.σ⟩ := rfl
theorem L_nil {Q : List MV → AS → Prop} : vcL Sp r ns X [] c Q = Q [] c := rfl
theorem L_cons (e es) {Q : List MV → AS → Prop} : vcL Sp r ns X (e :: es) c Q = vcE Sp r ns X e c fun v c₁ => vcL Sp r ns X es c₁ fun vs c₂ => Q (v :: vs) c₂ := rfl
theorem O_none {Q : Option Int → AS → Prop} : vcO Sp r ns X none c Q = Q none c := rfl
theorem O_some (e) {Q : Option Int → AS → Prop} : vcO Sp r ns X (some e) c Q = vcE Sp r ns X e c fun v c₁ => onP (asInt v) fun i => Q (some i) c₁ := rfl
theorem C_none : vcC Sp r ns X none c B = B true c := rfl
theorem C_some (e) : vcC Sp r ns X (some e) c B = vcT Sp r ns X e c B := rfl
theorem T_not (e) : vcT Sp r ns X (.not e) c B = vcT Sp r ns X e c fun b c₁ => B (!b) c₁ := rfl
theorem T_and (a b) : vcT Sp r ns X (.and a b) c B = vcT Sp r ns X a c fun t c₁ => if t then vcT Sp r ns X b c₁ B else B false c₁ := rfl
theorem T_or (a b) : vcT Sp r ns X (.or a b) c B = vcT Sp r ns X a c fun t c₁ => if t then B true c₁ else vcT Sp r ns X b c₁ B := rfl
theorem T_ite (t a b) : vcT Sp r ns X (.ite t a b) c B = vcT Sp r ns X t c fun x c₁ => if x then vcT Sp r ns X a c₁ B else vcT Sp r ns X b c₁ B := rfl
theorem T_cmp (op a b) : vcT Sp r ns X (.cmp op a b) c B = vcE Sp r ns X a c fun v c₁ => vcE Sp r ns X b c₁ fun w c₂ => onP (vCmp c₂.σ op v w) fun t => B t c₂ := rfl
theorem T_lv (i) : vcT Sp r ns X (.lv i) c B = onP (c.ρ.getD i none) fun v => onP (vTruth v) fun b => B b c := rfl
theorem T_con (v) : vcT Sp r ns X (.con v) c B = onP (vTruth (.p (.con v))) fun b => B b c := rfl
theorem T_call (f args) : vcT Sp r ns X (.call f args) c B = vcE Sp r ns X f c fun fv c₁ => vcL Sp r ns X args c₁ fun vs c₂ => vcCall Sp r ns fv vs X c₂ fun v c₃ => onP (vTruth v) fun b => B b c₃ := rfl
theorem onP_some {α : Type} (a : α) (P : α → Prop) : onP (some a) P = P a := rfl
theorem onP_none {α : Type} (P : α → Prop) : onP (none : Option α) P = False := rfl
end

/-! ### statements -/
noncomputable def itemsV : MV → Option (List MV) := fun y1_ => match y1_ with
  | .p (.tup l) => some (l.map .p)
  | .mt l => some l
  | z1_ => none
noncomputable def setAll (ρ : List (Option MV)) : List Nat → List MV → List (Option MV) := fun y1_ y2_ => match y1_, y2_ with
  | i :: is, v :: vs => setAll (ρ.set i (some v)) is vs
  | z1_, z2_ => ρ
/-- behind a statement -/
noncomputable def thenS (k : AS → Prop) (Q : Fl → AS → Prop) : Fl → AS → Prop := fun y1_ y2_ => match y1_, y2_ with
  | .nxt, c => k c
  | fl, c => Q fl c
/-- behind a turn of a while -/
noncomputable def thenW (k : AS → Prop) (Q : Fl → AS → Prop) : Fl → AS → Prop := fun y1_ y2_ => match y1_, y2_ with
  | .ret v, c => Q (.ret v) c
  | z1_, c => k c
noncomputable def thenH (Q : Fl → AS → Prop) : Fl → AS → Prop := fun y1_ y2_ => match y1_, y2_ with
  | .ret v, c => Q (.ret v) c
  | z1_, z2_ => False
noncomputable def vcTurns (f : AS → (Fl → AS → Prop) → Prop) (chk : List MO → Prop) (i : Nat) : List PV → AS → (Fl → AS → Prop) → Prop := fun y1_ y2_ y3_ => match y1_, y2_, y3_ with
  | [], c, Q => Q .nxt c
  | x :: xs, c, Q => f ⟨c.ρ.set i (some (.p x)), c.σ⟩ (thenW (fun c₁ => chk c₁.σ ∧ vcTurns f chk i xs c₁ Q) Q)
noncomputable def rangeP (n : Int) : List PV := (List.range n.toNat).map fun k => .int (k : Nat)

mutual
/-- np: how many objects of the store are the call's own arguments -/
noncomputable def vcS (Sp : Spec) (r : Nat) (ns : List Int) (np : Nat) : MS → Prop → AS → (Fl → AS → Prop) → Prop := fun y1_ y2_ y3_ y4_ => match y1_, y2_, y3_, y4_ with
  | .bad, z1_, z2_, z3_ => False
  | .asg i e, X, c, Q => vcE Sp r ns X e c fun v c₁ => Q .nxt ⟨c₁.ρ.set i (some v), c₁.σ⟩
  | .asgT is e, X, c, Q => vcE Sp r ns X e c fun v c₁ => onP (itemsV v) fun l => l.length = is.length ∧ Q .nxt ⟨setAll c₁.ρ is l, c₁.σ⟩
  | .setA o k e, X, c, Q => vcE Sp r ns X e c fun v c₁ => vcE Sp r ns X o c₁ fun ov c₂ => onP (vSetA c₂.σ k v ov) fun σ' => Q .nxt ⟨c₂.ρ, σ'⟩
  | .setI o i e, X, c, Q => vcE Sp r ns X e c fun v c₁ => vcE Sp r ns X o c₁ fun ov c₂ => vcE Sp r ns X i c₂ fun iv c₃ => onP (vSetI c₃.σ ov iv v) fun σ' => Q .nxt ⟨c₃.ρ, σ'⟩
  | .ex e, X, c, Q => vcE Sp r ns X e c fun z_ c₁ => Q .nxt c₁
  | .iff t a b, X, c, Q => vcT Sp r ns X t c fun x c₁ => if x then vcB Sp r ns np a X c₁ Q else vcB Sp r ns np b X c₁ Q
  | .whl t b, X, c, Q => ∃ (Inv : AS → Nat → Prop) (keep : List Nat) (m₀ : Nat), (onP (norm np keep [] c) fun q => Inv q.1 m₀) ∧
      ∀ c₀ m, Inv c₀ m → vcT Sp r ns X t c₀ fun x c₁ => if x then vcB Sp r ns np b X c₁ (thenW (fun c₂ => onP (norm np keep [] c₂) fun q => ∃ m', m' < m ∧ Inv q.1 m') Q)
        else Q .nxt c₁
  | .for_ i it b, X, c, Q => vcE Sp r ns X it c fun v c₁ => onP (iterOf c₁.σ v) fun l => l.length ≤ lim ∧ vcTurns (vcB Sp r ns c₁.σ.length b False) (stillAt v c₁.σ) i l c₁ Q
  | .forR i e b, X, c, Q => vcE Sp r ns X e c fun v c₁ => onP (asInt v) fun k => (0 ≤ k ∧ k ≤ lim) ∧ vcTurns (vcB Sp r ns np b False) (fun z_ => True) i (rangeP k) c₁ Q
  | .ret e, X, c, Q => vcE Sp r ns X e c fun v c₁ => Q (.ret v) c₁
  | .rai e, X, c, z1_ => vcE Sp r ns X e c fun z_ z_ => X
  | .cnt, z1_, c, Q => Q .cnt c
  | .tr b h, X, c, Q => np = 0 ∧ vcB Sp r ns np b (vcB Sp r ns np h X ⟨List.replicate c.ρ.length none, []⟩ (thenH Q)) c Q
noncomputable def vcB (Sp : Spec) (r : Nat) (ns : List Int) (np : Nat) : List MS → Prop → AS → (Fl → AS → Prop) → Prop := fun y1_ y2_ y3_ y4_ => match y1_, y2_, y3_, y4_ with
  | [], z1_, c, Q => Q .nxt c
  | s :: rest, X, c, Q => vcS Sp r ns np s X c (thenS (fun c₁ => vcB Sp r ns np rest X c₁ Q) Q)
end

noncomputable def bindPs (ln : Nat) (ps : List Nat) (vs : List MV) : List (Option MV) := setAll (List.replicate ln none) ps vs
/-- what a call hands back -/
noncomputable def handBack (np : Nat) (v : MV) (c : AS) (Q : MV → List MO → List MO → Prop) : Prop :=
  onP (norm np [] [v] c) fun q => onP q.2.head? fun w => Q w (q.1.σ.take np) (q.1.σ.drop np)
/-- the body of a def: `ps` the parameters' places, `ln` the names -/
noncomputable def vcDef (Sp : Spec) (r : Nat) (ns : List Int) (f : List Nat × Nat × List MS) (vs : List MV) (σp : List MO) (Q : MV → List MO → List MO → Prop) (X : Prop) : Prop :=
  vs.length = f.1.length ∧ vcB Sp r ns σp.length f.2.2 X ⟨bindPs f.2.1 f.1 vs, σp⟩ fun fl c => handBack σp.length fl.val c Q
/-- the body of a lambda -/
noncomputable def vcLam (Sp : Spec) (r : Nat) (ns : List Int) (f : List Nat × Nat × ME) (vs : List MV) (σp : List MO) (Q : MV → List MO → List MO → Prop) (X : Prop) : Prop :=
  vs.length = f.1.length ∧ vcE Sp r ns X f.2.2 ⟨bindPs f.2.1 f.1 vs, σp⟩ fun v c => handBack σp.length v c Q
end Mine
namespace Mine

/-- the globals' names, by number -/
noncomputable def gNames : List Str := [
  ⟨#[116, 117, 112, 108, 101]⟩,
  ⟨#[108, 105, 115, 116]⟩,
  ⟨#[100, 105, 99, 116]⟩,
  ⟨#[105, 110, 116]⟩,
  ⟨#[108, 101, 110]⟩,
  ⟨#[97, 108, 108]⟩,
  ⟨#[109, 97, 120]⟩,
  ⟨#[109, 105, 110]⟩,
  ⟨#[79, 80, 69, 78, 73, 78, 71]⟩,
  ⟨#[67, 72, 65, 78, 71, 73, 78, 71]⟩,
  ⟨#[77, 79, 83, 84, 95, 68, 69, 69, 80]⟩,
  ⟨#[78, 97, 109, 101, 83, 117, 112, 112, 108, 121]⟩,
  ⟨#[82, 101, 110, 97, 109, 101, 114]⟩,
  ⟨#[69, 120, 112, 97, 110, 100, 101, 114]⟩,
  ⟨#[101, 120, 112, 114]⟩,
  ⟨#[105, 115, 95, 101, 120, 112, 114]⟩,
  ⟨#[104, 101, 97, 100, 95, 111, 102]⟩,
  ⟨#[112, 97, 114, 116, 115, 95, 111, 102]⟩,
  ⟨#[105, 115, 95, 115, 121, 109]⟩,
  ⟨#[111, 119, 110, 95, 110, 97, 109, 101, 115]⟩,
  ⟨#[98, 97, 114, 101]⟩,
  ⟨#[114, 101, 110, 97, 109, 101, 100, 95, 108, 111, 99, 97, 108, 115]⟩,
  ⟨#[112, 108, 97, 105, 110, 95, 109, 97, 107, 101, 114]⟩,
  ⟨#[105, 110, 110, 101, 114, 95, 100, 101, 112, 116, 104]⟩,
  ⟨#[112, 117, 116, 95, 105, 110]⟩,
  ⟨#[106, 111, 105, 110, 101, 100, 95, 112, 97, 114, 116, 115]⟩,
  ⟨#[113, 117, 111, 116, 101, 100]⟩,
  ⟨#[101, 120, 112, 97, 110, 100, 101, 100]⟩,
  ⟨#[95, 108, 97, 119, 95, 98, 97, 103]⟩,
  ⟨#[95, 108, 97, 119, 95, 112, 105, 99, 107]⟩,
  ⟨#[95, 108, 97, 119, 95, 107, 101, 112, 116]⟩,
  ⟨#[95, 108, 97, 119, 95, 109, 97, 99, 114, 111, 115]⟩,
  ⟨#[95, 108, 97, 119, 95, 116, 114, 101, 101]⟩,
  ⟨#[95, 108, 97, 119, 95, 99, 111, 110, 115, 116, 97, 110, 116]⟩,
  ⟨#[95, 108, 97, 119, 95, 100, 117, 101]⟩,
  ⟨#[95, 108, 97, 119, 95, 105, 115, 95, 99, 108, 101, 97, 110]⟩,
  ⟨#[95, 108, 97, 119, 95, 114, 101, 102, 117, 115, 101, 100]⟩]
abbrev Names := List (Str × NameKind)
noncomputable def isVar : NameKind → Bool := fun y1_ => match y1_ with
  | .local | .cell => true
  | z1_ => false
noncomputable def lvIdx (ns : Names) (x : Str) : Option Nat := match ns.findIdx? (fun p => p.1 == x) with
  | some i => if (ns[i]?.map (·.2)).any isVar then some i else none
  | none => none
noncomputable def glIdx (ns : Names) (x : Str) : Option Nat := if ns.lookup x == some .globalImplicit then gNames.findIdx? (· == x) else none

/-- the block's table of a comprehension as the machine has it: names that the function keeps in cells -/
noncomputable def ownNames (outer inner : Names) : Names := inner.map fun p => (p.1, if p.2 == .free && outer.lookup p.1 == some .cell then .cell else p.2)
/-- the names that the block takes over -/
noncomputable def capsOf (outer inner : Names) : Nat → Names → List (Nat × Nat) := fun y1_ y2_ => match y1_, y2_ with
  | z1_, [] => []
  | j, (x, k) :: r => (if k == .free then (match lvIdx outer x with | some i => [(i, j)] | none => []) else []) ++ capsOf outer inner (j + 1) r
noncomputable def erLoc (ns : Names) (x : Str) : Option Nat := match lvIdx ns x with
  | some i => if ns[i]?.any (·.2 == .local) then some i else none
  | none => none
noncomputable def namesOf (ns : Names) : List Expr → Option (List Nat) := fun y1_ => match y1_ with
  | [] => some []
  | .Name x z1_ :: r => match lvIdx ns x, namesOf ns r with
    | some i, some l => if ns[i]?.any (·.2 == .local) && !(l.elem i) then some (i :: l) else none
    | z1_, z2_ => none
  | z1_ => none

noncomputable def oneL : Option Nat → Option (List Nat) := fun y1_ => match y1_ with
  | some i => some [i]
  | none => none
noncomputable def twoL : Option (List Nat) → Option (List Nat) := fun y1_ => match y1_ with
  | some [i, j] => some [i, j]
  | z1_ => none
noncomputable def tgOf (ns : Names) : Expr → Option (List Nat) := fun y1_ => match y1_ with
  | .Name x z1_ => oneL (erLoc ns x)
  | .Tuple ts z1_ z2_ => twoL (namesOf ns ts)
  | z1_ => none

/-! projections of the syntax -/
noncomputable def asName : Expr → Option Str := fun y1_ => match y1_ with
  | .Name x z1_ => some x
  | z1_ => none
noncomputable def asCall : Expr → Option (Expr × List Expr × List Keyword) := fun y1_ => match y1_ with
  | .Call f args kws z1_ => some (f, args, kws)
  | z1_ => none
noncomputable def asBool1 : Expr → Option Bool := fun y1_ => match y1_ with
  | .Constant (.bool b) z1_ z2_ => some b
  | z1_ => none
noncomputable def asRet : Stmt → Option (Option Expr) := fun y1_ => match y1_ with
  | .Return v z1_ => some v
  | z1_ => none
noncomputable def bindO {α β : Type} : Option α → (α → Option β) → Option β := fun y1_ y2_ => match y1_, y2_ with
  | some a, f => f a
  | none, z1_ => none
/-- a call of a name with one argument -/
noncomputable def callOne (e : Expr) : Option (Str × Expr) := bindO (asCall e) fun q => match q with
  | (f, [a], []) => bindO (asName f) fun x => some (x, a)
  | z1_ => none
theorem no {p : Prop} (h : true = false) : p := Bool.noConfusion h
theorem no' {p : Prop} (h : false = true) : p := Bool.noConfusion h
noncomputable def isComp (e : Expr) : Bool := Nat.ble 8 e.ctorIdx && Nat.ble e.ctorIdx 10
noncomputable def isStar (e : Expr) : Bool := Nat.beq e.ctorIdx 22
noncomputable def isSet (e : Expr) : Bool := Nat.beq e.ctorIdx 7
/-- a call of nothing (super() is one) -/
noncomputable def isBareCall : Expr → Bool := fun y1_ => match y1_ with
  | .Call (.Name z1_ z2_) [] [] z3_ => true
  | z1_ => false

noncomputable def nodupS : List Str → Bool := fun y1_ => match y1_ with
  | [] => true
  | x :: r => !(r.elem x) && nodupS r
/-- a comprehension's table that is covered -/
noncomputable def compOK (ns : Names) (scope : Scope) : Bool := scope.kind == .function && nodupS (scope.names.map (·.1)) &&
  scope.names.all fun p => p.2 == .local || (p.2 == .free && ns.lookup p.1 == some .cell) || p.2 == .globalImplicit
noncomputable def condOf (f : Expr → ME) : List Expr → Option ME := fun y1_ => match y1_ with
  | [] => none
  | [t] => some (f t)
  | z1_ => some .bad
noncomputable def erStr (s : Str) : ME := match codeOf s with
  | some k => .str k
  | none => .bad
noncomputable def erCon : Const → ME := fun y1_ => match y1_ with
  | .none => .con .none
  | .bool b => .con (.bool b)
  | .int i => .int i
  | .str s => erStr s
  | z1_ => .bad
noncomputable def erGl (ns : Names) (x : Str) : ME := match glIdx ns x with
  | some k => .gl k
  | none => .bad
noncomputable def erVar (ns : Names) (x : Str) : ME := match lvIdx ns x with
  | some i => .lv i
  | none => erGl ns x
noncomputable def erName (ns : Names) (x : Str) : ME := if x == ("__debug__" : Str) then .bad else erVar ns x
noncomputable def erBool (op : BoolOp) : List ME → ME := fun y1_ => match y1_ with
  | [a, b] => match op with
    | .And => .and a b
    | .Or => .or a b
  | z1_ => .bad
noncomputable def erUn (op : UnaryOp) (a : ME) : ME := match op with
  | .Not => .not a
  | .USub => .neg a
  | z1_ => .bad
noncomputable def cmpOf : CmpOp → Option COp := fun y1_ => match y1_ with
  | .Eq => some .eq
  | .NotEq => some .ne
  | .Lt => some .lt
  | .LtE => some .le
  | .Gt => some .gt
  | .GtE => some .ge
  | .In => some .isin
  | .NotIn => some .notin
  | z1_ => none
noncomputable def erCmp (f : Expr → ME) (a : ME) : List CmpOp → List Expr → ME := fun y1_ y2_ => match y1_, y2_ with
  | [op], [b] => if isSet b then .bad else match cmpOf op with
    | some o => .cmp o a (f b)
    | none => .bad
  | z1_, z2_ => .bad
noncomputable def binOf : Operator → Option BOp := fun y1_ => match y1_ with
  | .Add => some .add
  | .Sub => some .sub
  | .Mult => some .mul
  | .FloorDiv => some .fdiv
  | .Mod => some .mod
  | .Pow => some .pow
  | z1_ => none
noncomputable def erBin (a b : ME) : Option BOp → ME := fun y1_ => match y1_ with
  | some o => .bin o a b
  | none => .bad
noncomputable def erRev (a : ME) : Expr → ME := fun y1_ => match y1_ with
  | .UnaryOp .USub (.Constant (.int i) z1_ z2_) z3_ => if i = 1 then .slc a none none true else .bad
  | z1_ => .bad
noncomputable def erSlc (f : Expr → ME) (a : ME) : Option Expr → Option Expr → Option Expr → ME := fun y1_ y2_ y3_ => match y1_, y2_, y3_ with
  | some x, none, none => .slc a (some (f x)) none false
  | none, some x, none => .slc a none (some (f x)) false
  | none, none, some s => erRev a s
  | z1_, z2_, z3_ => .bad
noncomputable def erSub (f : Expr → ME) (a : ME) (i : Expr) : ME := match i with
  | .Slice lo hi st z1_ => erSlc f a lo hi st
  | i => .sub a (f i)
noncomputable def erAttr (o : ME) (a : Str) : ME := match codeOf a with
  | some k => .attr o k
  | none => .bad
noncomputable def erMeth (o : ME) (a : Str) (args : List ME) : ME := match codeOf a with
  | some k => .meth o k args
  | none => .bad
noncomputable def erCall (f : Expr → ME) (g : Expr) (args : List ME) (pos : Pos) : ME := match g with
  | .Attribute o m apos => if isBareCall o || apos.endLine != pos.line then .bad else erMeth (f o) m args
  | g => .call (f g) args
noncomputable def isOne {α : Type} : List α → Bool := fun y1_ => match y1_ with
  | [z1_] => true
  | z1_ => false
noncomputable def erComp (ns ni : Names) (scope : Scope) (elt iter : ME) (conds : Option ME) (ok : Bool) : Option (List Nat) → ME := fun y1_ => match y1_ with
  | some tg => if ok then .comp tg (capsOf ns ni 0 scope.names) ni.length elt conds iter else .bad
  | none => .bad
noncomputable def er (ns : Names) : Nat → Expr → ME := fun y1_ y2_ => match y1_, y2_ with
  | 0, z1_ => .bad
  | n + 1, e => match e with
    | .Constant c z1_ z2_ => erCon c
    | .Name x z1_ => erName ns x
    | .BoolOp op l z1_ => erBool op (l.map (er ns n))
    | .UnaryOp op a z1_ => erUn op (er ns n a)
    | .IfExp t a b z1_ => .ite (er ns n t) (er ns n a) (er ns n b)
    | .Compare a ops bs z1_ => erCmp (er ns n) (er ns n a) ops bs
    | .BinOp a op b z1_ => erBin (er ns n a) (er ns n b) (binOf op)
    | .Subscript a i z1_ => erSub (er ns n) (er ns n a) i
    | .Attribute o a z1_ => if isBareCall o then .bad else erAttr (er ns n o) a
    | .Call f args kws pos => if !kws.isEmpty || args.length > 9 || args.any isStar then .bad else erCall (er ns n) f (args.map (er ns n)) pos
    | .Tuple es z1_ z2_ => .tup (es.map (er ns n))
    | .List es z1_ => .lst (es.map (er ns n))
    | .Dict ks vs z1_ => if ks.isEmpty && vs.isEmpty then .dct0 else .bad
    | .ListComp elt gens scope z1_ => match gens with
      | [⟨target, iter, ifs, asy⟩] => if asy != 0 then .bad else
        erComp ns (ownNames ns scope.names) scope (er (ownNames ns scope.names) n elt) (er ns n iter) (condOf (er (ownNames ns scope.names) n) ifs) (compOK ns scope && !isSet iter) (tgOf (ownNames ns scope.names) target)
      | z1_ => .bad
    | z1_ => .bad

/-- no tuple of constants alone -/
noncomputable def foldOK : Expr → Bool := fun y1_ => match y1_ with
  | .Tuple vs z1_ z2_ => !(vs.all (constantsAlone 8))
  | z1_ => true
/-- a handler that just returns True or False -/
noncomputable def isRetB : List Stmt → Bool := fun y1_ => match y1_ with
  | [s] => (bindO (asRet s) fun v => bindO v asBool1).isSome
  | z1_ => false
noncomputable def asgOf (v : ME) : Option Nat → MS := fun y1_ => match y1_ with
  | some i => .asg i v
  | none => .bad
noncomputable def asgTOf (v : ME) (ok : Bool) : Option (List Nat) → MS := fun y1_ => match y1_ with
  | some is => if ok then .asgT is v else .bad
  | none => .bad
noncomputable def setAOf (o v : ME) : Option Nat → MS := fun y1_ => match y1_ with
  | some k => .setA o k v
  | none => .bad
noncomputable def isSlice (e : Expr) : Bool := Nat.beq e.ctorIdx 26
noncomputable def erAsg (ns : Names) (f : Expr → ME) (ve : Expr) (v : ME) : Expr → MS := fun y1_ => match y1_ with
  | .Name x z1_ => asgOf v (erLoc ns x)
  | .Tuple ts z1_ z2_ => asgTOf v (foldOK ve) (namesOf ns ts)
  | .Attribute o a z1_ => if isBareCall o then .bad else setAOf (f o) v (codeOf a)
  | .Subscript o i z1_ => if isSlice i then .bad else .setI (f o) (f i) v
  | z1_ => .bad
noncomputable def rangeOf (ns : Names) (it : Expr) : Option Expr := bindO (callOne it) fun q => if q.1 == ("range" : Str) then some q.2 else none
noncomputable def forOf (ns : Names) (f : Expr → ME) (it : Expr) (b : List MS) : Option Nat → MS := fun y1_ => match y1_ with
  | some i => match rangeOf ns it with
    | some e => if ns.lookup ("range" : Str) == some .globalImplicit then .forR i (f e) b else .bad
    | none => .for_ i (f it) b
  | none => .bad
noncomputable def raiOf (e : Option Expr) : Option (Str × Expr) := bindO e callOne
noncomputable def erRai (ns : Names) (f : Expr → ME) : Option (Str × Expr) → Bool → MS := fun y1_ y2_ => match y1_, y2_ with
  | some (x, e), true => if x == ("MacroFault" : Str) && ns.lookup x == some .globalImplicit then .rai (f e) else .bad
  | z1_, z2_ => .bad
noncomputable def tryOf : List ExceptHandler → Option (Str × List Stmt) := fun y1_ => match y1_ with
  | [.ExceptHandler t nm h z1_] => match nm with
    | none => bindO (bindO t asName) fun x => some (x, h)
    | some z1_ => none
  | z1_ => none
noncomputable def erTry (ns : Names) (g : Stmt → MS) (b : List MS) (ok : Bool) : Option (Str × List Stmt) → MS := fun y1_ => match y1_ with
  | some (x, h) => if (x == ("MacroFault" : Str) && ns.lookup x == some .globalImplicit) && isRetB h && ok then .tr b (h.map g) else .bad
  | none => .bad
noncomputable def erS (ns : Names) : Nat → Stmt → MS := fun y1_ y2_ => match y1_, y2_ with
  | 0, z1_ => .bad
  | n + 1, s => match s with
    | .Assign ts v z1_ => match ts with
      | [t] => if isComp v then .bad else erAsg ns (er ns n) v (er ns n v) t
      | z1_ => .bad
    | .Expr e z1_ => if isComp e then .bad else .ex (er ns n e)
    | .If t a b z1_ => .iff (er ns n t) (a.map (erS ns n)) (b.map (erS ns n))
    | .While t b els z1_ => if els.isEmpty then .whl (er ns n t) (b.map (erS ns n)) else .bad
    | .For t it b els z1_ => match t with
      | .Name x z1_ => if els.isEmpty then forOf ns (er ns n) it (b.map (erS ns n)) (erLoc ns x) else .bad
      | z1_ => .bad
    | .Return v z1_ => match v with
      | some e => .ret (er ns n e)
      | none => .bad
    | .Raise exc cause z1_ => erRai ns (er ns n) (raiOf exc) cause.isNone
    | .Continue z1_ => .cnt
    | .Try b hs els fin z1_ => erTry ns (erS ns n) (b.map (erS ns n)) (els.isEmpty && fin.isEmpty) (tryOf hs)
    | z1_ => .bad
end Mine
namespace Mine

/-! ## what the abstract machine says of the real one -/

/-- the table of the code of _law_macros, which grows -/
@[reducible] noncomputable def PT : Addr := 406
abbrev tupO (vs : List Value) (n : Nat) : Obj := { cls := .type "tuple", dict := none, data := .seq vs.toArray n, slots := #[] }
abbrev lstO (vs : List Value) (n : Nat) : Obj := { cls := .type "list", dict := none, data := .seq vs.toArray n, slots := #[] }
abbrev cellO (v : Value) : Obj := { cls := .type "cell", dict := none, data := .cell (some v), slots := #[] }

structure Cx where
  prog : Program
  w : World
  K : Frag
  g1 : Heap
  mg : Str → Option Value
  mb : Str → Option Value
  ns : List Int
  scr : Addr
  /-- the lambdas: parameters, body, scope -/
  lam : Nat → Option (Arguments × Expr × Scope)

noncomputable def lamQual : Str := Str.ofString "_law_macros" ++ Str.ofString ".<locals>." ++ Str.ofString "<lambda>"

structure Cx.Good (X : Cx) : Prop where
  KX : X.K.In X.g1
  g : X.g1.Ns mainGlobals X.mg
  b : X.g1.Ns builtinsNs X.mb
  nolimit : X.g1.NoLimit
  builtins : ∀ x : Str, x ≠ "__name__" → X.mb x = bootBuiltins x
  bat : X.g1.BuiltinsAt X.mg PT
  scr : ∃ vs, X.g1.IsList X.scr vs.toArray ∧ IntsAre vs X.ns
  few : X.ns.length ≤ 64
  pt : PT < X.g1.objs.size

noncomputable def TabOK (h : Heap) : Prop := ∃ ps : Array Value, h.get? PT = some (tabObj ps) ∧ TriplesOk ps.toList ∧ ∀ pos cv, codeAmong pos ps.toList = some cv → ∃ c, cv = .ref c ∧ h.CodeRec cv lamQual
noncomputable def Base (X : Cx) (h : Heap) : Prop := (∀ b o, X.g1.get? b = some o → h.get? b = some o) ∧ TabOK h

noncomputable def calV : Nat → Option Value := fun y1_ => match y1_ with
  | 0 => some (.type "tuple") | 1 => some (.type "list") | 2 => some (.type "dict") | 3 => some (.type "int")
  | 4 => some (.builtin "len") | 5 => some (.builtin "all") | 6 => some (.builtin "max") | 7 => some (.builtin "min") | _ => none

mutual
noncomputable def RepP (X : Cx) (h : Heap) (v : Value) : PV → Prop := fun y1_ => match y1_ with
  | .con u => v = u ∧ (u = .none ∨ ∃ b, u = .bool b)
  | .int i => ∃ t, v = .int i t
  | .str k => k < nStr ∧ ∃ t, v = .str (S k) t
  | .any => ∃ x t, v = .str x t
  | .scr => v = .ref X.scr
  | .cal k => calV k = some v
  | .fnc a => v = .ref a
  | .cls a => v = .ref a
  | .tup l => ∃ a vs n, v = .ref a ∧ h.get? a = some (tupO vs n) ∧ RepPs X h vs l
noncomputable def RepPs (X : Cx) (h : Heap) (vs : List Value) : List PV → Prop := fun y1_ => match y1_ with
  | [] => vs = []
  | x :: xs => ∃ v r, vs = v :: r ∧ RepP X h v x ∧ RepPs X h r xs
end
mutual
noncomputable def RepM (X : Cx) (as : List Addr) (h : Heap) (v : Value) : MV → Prop := fun y1_ => match y1_ with
  | .p x => RepP X h v x
  | .loc i => ∃ a, as[i]? = some a ∧ v = .ref a
  | .mt l => ∃ a vs n, v = .ref a ∧ h.get? a = some (tupO vs n) ∧ RepMs X as h vs l
noncomputable def RepMs (X : Cx) (as : List Addr) (h : Heap) (vs : List Value) : List MV → Prop := fun y1_ => match y1_ with
  | [] => vs = []
  | x :: xs => ∃ v r, vs = v :: r ∧ RepM X as h v x ∧ RepMs X as h r xs
end
noncomputable def RepEs (X : Cx) (as : List Addr) (h : Heap) : List DictEntry → List (Nat × MV) → Prop := fun y1_ y2_ => match y1_, y2_ with
  | [], [] => True
  | e :: r, (k, x) :: r' => (k < nStr ∧ (∃ t, e.key = .str (S k) t) ∧ e.hash = PyData.keyHash X.w.params (S k) ∧ RepM X as h e.val x) ∧ RepEs X as h r r'
  | z1_, z2_ => False
/-- the globals are what the numbers say -/
noncomputable def GlobOK (X : Cx) : Prop := ∀ k pv, gPV k = some pv → ∃ x v, gNames[k]? = some x ∧ (X.mg x = some v ∨ (X.mg x = none ∧ X.mb x = some v)) ∧ RepP X X.g1 v pv
noncomputable def lamAt (X : Cx) (h : Heap) (k : Nat) (o : Obj) : Prop :=
  ∃ params body scope pm c' ctv, X.lam k = some (params, body, scope) ∧ o = kla_obj "<lambda>" lamQual params body scope [] pm c' ctv ∧ h.CodeRec (.ref c') lamQual
noncomputable def RepO (X : Cx) (as : List Addr) (h : Heap) (o : Obj) : MO → Prop := fun y1_ => match y1_ with
  | .lst l => ∃ vs n, o = lstO vs n ∧ RepPs X h vs l
  | .dct es => ∃ des n, o = dictOf des n ∧ RepEs X as h des es
  | .inst C d => ∃ dx, as[d]? = some dx ∧ o = instObj C dx
  | .fn k => lamAt X h k o

noncomputable def StoreOK (X : Cx) (h : Heap) (as : List Addr) (σ : List MO) : Prop :=
  as.length = σ.length ∧ as.Nodup ∧ ∀ (i : Nat) (o : MO), σ[i]? = some o → ∃ a ob, as[i]? = some a ∧ X.g1.objs.size ≤ a ∧ h.get? a = some ob ∧ RepO X as h ob o

/-! ### what stays -/
/-- the immutable kinds: tuples, code objects, cells (as they are used here) -/
noncomputable def Imm (o : Obj) : Prop := match o.data with
  | .seq .. => o.cls = .type "tuple"
  | .fields vs => ∃ q t, vs[1]? = some (.str q t)
  | .cell _ => True
  | _ => False
theorem Imm.code {o : Obj} {vs : Array Value} {q : Str} {t : Nat} (hd : o.data = .fields vs) (h : vs[1]? = some (.str q t)) : Imm o := by
  unfold Imm
  rw [hd]
  exact ⟨q, t, h⟩
theorem Imm.cell {o : Obj} {v} (hd : o.data = .cell v) : Imm o := by
  unfold Imm
  rw [hd]
  trivial
theorem nImm_fields {o : Obj} {vs : Array Value} {v : Value} (hd : o.data = .fields vs) (hv : vs[1]? = some v) (hs : ∀ q t, v ≠ .str q t) : ¬ Imm o := by
  unfold Imm
  rw [hd]
  exact fun ⟨q, t, e⟩ => hs q t (Option.some.inj (hv.symm.trans e))
noncomputable def TKeep (h h' : Heap) : Prop := ∀ a o, h.get? a = some o → Imm o → h'.get? a = some o

mutual
theorem RepP.keep {X : Cx} {h h' : Heap} (k : TKeep h h') : ∀ {v : Value} {x : PV}, RepP X h v x → RepP X h' v x := @fun y1_ y2_ y3_ => match y1_, y2_, y3_ with
  | v, .con u, r => by simpa only [RepP] using r
  | v, .int i, r => by simpa only [RepP] using r
  | v, .str k, r => by simpa only [RepP] using r
  | v, .any, r => by simpa only [RepP] using r
  | v, .scr, r => by simpa only [RepP] using r
  | v, .cal k, r => by simpa only [RepP] using r
  | v, .fnc a, r => by simpa only [RepP] using r
  | v, .cls a, r => by simpa only [RepP] using r
  | v, .tup l, r => by
    simp only [RepP] at r ⊢
    clear y3_
    obtain ⟨a, vs, n, e, ho, hr⟩ := r
    exact ⟨a, vs, n, e, k _ _ ho rfl, RepPs.keep k hr⟩
theorem RepPs.keep {X : Cx} {h h' : Heap} (k : TKeep h h') : ∀ {vs : List Value} {l : List PV}, RepPs X h vs l → RepPs X h' vs l := @fun y1_ y2_ y3_ => match y1_, y2_, y3_ with
  | vs, [], r => by simpa only [RepPs] using r
  | vs, x :: xs, r => by
    simp only [RepPs] at r ⊢
    clear y3_
    obtain ⟨v, q, e, h1, h2⟩ := r
    exact ⟨v, q, e, RepP.keep k h1, RepPs.keep k h2⟩
end
mutual
theorem RepM.keep {X : Cx} {as : List Addr} {h h' : Heap} (k : TKeep h h') : ∀ {v : Value} {x : MV}, RepM X as h v x → RepM X as h' v x := @fun y1_ y2_ y3_ => match y1_, y2_, y3_ with
  | v, .p x, r => by simp only [RepM] at r ⊢; exact r.keep k
  | v, .loc i, r => by simpa only [RepM] using r
  | v, .mt l, r => by
    simp only [RepM] at r ⊢
    clear y3_
    obtain ⟨a, vs, n, e, ho, hr⟩ := r
    exact ⟨a, vs, n, e, k _ _ ho rfl, RepMs.keep k hr⟩
theorem RepMs.keep {X : Cx} {as : List Addr} {h h' : Heap} (k : TKeep h h') : ∀ {vs : List Value} {l : List MV}, RepMs X as h vs l → RepMs X as h' vs l := @fun y1_ y2_ y3_ => match y1_, y2_, y3_ with
  | vs, [], r => by simpa only [RepMs] using r
  | vs, x :: xs, r => by
    simp only [RepMs] at r ⊢
    clear y3_
    obtain ⟨v, q, e, h1, h2⟩ := r
    exact ⟨v, q, e, RepM.keep k h1, RepMs.keep k h2⟩
end
theorem RepEs.keep {X : Cx} {as : List Addr} {h h' : Heap} (k : TKeep h h') : ∀ {des : List DictEntry} {es : List (Nat × MV)}, RepEs X as h des es → RepEs X as h' des es := @fun y1_ y2_ y3_ => match y1_, y2_, y3_ with
  | [], [], z1_ => trivial
  | e :: r, (q, x) :: r', ⟨⟨h1, h2, h3, h4⟩, h5⟩ => ⟨⟨h1, h2, h3, h4.keep k⟩, RepEs.keep k h5⟩
theorem codeRec_keep {h h' : Heap} (k : TKeep h h') {cd : Value} {q : Str} (x : h.CodeRec cd q) : h'.CodeRec cd q :=
  let ⟨c, o, vs, t, e, ho, hd, r⟩ := x; ⟨c, o, vs, t, e, k _ _ ho (.code hd r), hd, r⟩
theorem RepO.keep {X : Cx} {as : List Addr} {h h' : Heap} (k : TKeep h h') {o : Obj} : ∀ {x : MO}, RepO X as h o x → RepO X as h' o x := @fun y1_ y2_ => match y1_, y2_ with
  | .lst z1_, ⟨vs, n, e, r⟩ => ⟨vs, n, e, r.keep k⟩
  | .dct z1_, ⟨des, n, e, r⟩ => ⟨des, n, e, r.keep k⟩
  | .inst z1_ z2_, r => r
  | .fn z1_, ⟨params, body, scope, pm, c', ctv, h1, h2, h3⟩ => ⟨params, body, scope, pm, c', ctv, h1, h2, codeRec_keep k h3⟩

/-! ### the numbering -/
mutual
theorem RepM.ren {X : Cx} {as as' : List Addr} {h : Heap} {f : Nat → Nat} : ∀ {v : Value} {x : MV}, (∀ i ∈ refsV x, ∀ a, as[i]? = some a → as'[f i]? = some a) → RepM X as h v x → RepM X as' h v (renV f x) := @fun y1_ y2_ y3_ y4_ => match y1_, y2_, y3_, y4_ with
  | v, .p x, z1_, r => by simp only [RepM, renV] at r ⊢; exact r
  | v, .loc i, k, r => by
    simp only [RepM, renV] at r ⊢
    clear y3_ y4_
    obtain ⟨a, e, q⟩ := r
    exact ⟨a, k i (by simp [refsV]) a e, q⟩
  | v, .mt l, k, r => by
    simp only [RepM, renV] at r ⊢
    clear y3_ y4_
    obtain ⟨a, vs, n, e, ho, hr⟩ := r
    exact ⟨a, vs, n, e, ho, RepMs.ren (fun i hi => k i (by simpa only [refsV] using hi)) hr⟩
theorem RepMs.ren {X : Cx} {as as' : List Addr} {h : Heap} {f : Nat → Nat} : ∀ {vs : List Value} {l : List MV}, (∀ i ∈ refsVs l, ∀ a, as[i]? = some a → as'[f i]? = some a) → RepMs X as h vs l → RepMs X as' h vs (renVs f l) := @fun y1_ y2_ y3_ y4_ => match y1_, y2_, y3_, y4_ with
  | vs, [], z1_, r => by simpa only [RepMs, renVs] using r
  | vs, x :: xs, k, r => by
    simp only [RepMs, renVs] at r ⊢
    clear y3_ y4_
    obtain ⟨v, q, e, h1, h2⟩ := r
    exact ⟨v, q, e, RepM.ren (fun i hi => k i (by simp only [refsVs, List.mem_append]; exact .inl hi)) h1, RepMs.ren (fun i hi => k i (by simp only [refsVs, List.mem_append]; exact .inr hi)) h2⟩
end
theorem RepEs.ren {X : Cx} {as as' : List Addr} {h : Heap} {f : Nat → Nat} : ∀ {des : List DictEntry} {es : List (Nat × MV)}, (∀ i ∈ refsEs es, ∀ a, as[i]? = some a → as'[f i]? = some a) → RepEs X as h des es → RepEs X as' h des (renEs f es) := @fun y1_ y2_ y3_ y4_ => match y1_, y2_, y3_, y4_ with
  | [], [], z1_, z2_ => trivial
  | e :: r, (q, x) :: r', k, ⟨⟨h1, h2, h3, h4⟩, h5⟩ => ⟨⟨h1, h2, h3, h4.ren fun i hi => k i (by simp only [refsEs, List.mem_append]; exact .inl hi)⟩,
      RepEs.ren (fun i hi => k i (by simp only [refsEs, List.mem_append]; exact .inr hi)) h5⟩
theorem RepO.ren {X : Cx} {as as' : List Addr} {h : Heap} {f : Nat → Nat} {o : Obj} : ∀ {x : MO}, (∀ i ∈ refsO x, ∀ a, as[i]? = some a → as'[f i]? = some a) → RepO X as h o x → RepO X as' h o (renO f x) := @fun y1_ y2_ y3_ => match y1_, y2_, y3_ with
  | .lst z1_, z2_, r => r
  | .dct z1_, k, ⟨des, n, e, r⟩ => ⟨des, n, e, r.ren k⟩
  | .inst z1_ d, k, ⟨dx, e, q⟩ => ⟨dx, k d (by simp [refsO]) dx e, q⟩
  | .fn z1_, z2_, r => r
theorem renV_id : ∀ x : MV, renV id x = x := by
  intro x
  refine MV.rec (motive_1 := fun x => renV id x = x) (motive_2 := fun l => renVs id l = l) (fun z_ => rfl) (fun z_ => rfl) (fun l h => by simp only [renV, h]) rfl (fun v l h1 h2 => by simp only [renVs, h1, h2]) x
theorem renVs_id : ∀ l : List MV, renVs id l = l := fun y1_ => match y1_ with
  | [] => rfl
  | v :: l => by simp only [renVs, renV_id, renVs_id l]
theorem renEs_id : ∀ l : List (Nat × MV), renEs id l = l := fun y1_ => match y1_ with
  | [] => rfl
  | (k, v) :: l => by simp only [renEs, renV_id, renEs_id l]
theorem renO_id (o : MO) : renO id o = o := by cases o <;> simp only [renO, renEs_id, id]
/-- more objects in the store -/
theorem RepM.more {X : Cx} {as bs : List Addr} {h : Heap} {v : Value} {x : MV} (r : RepM X as h v x) : RepM X (as ++ bs) h v x := by
  have := RepM.ren (as' := as ++ bs) (f := id) (fun i z_ a e => by rw [id, List.getElem?_append_left (List.getElem?_eq_some_iff.mp e).1]; exact e) r
  rwa [renV_id] at this
theorem RepMs.more {X : Cx} {as bs : List Addr} {h : Heap} {vs : List Value} {l : List MV} (r : RepMs X as h vs l) : RepMs X (as ++ bs) h vs l := by
  have := RepMs.ren (as' := as ++ bs) (f := id) (fun i z_ a e => by rw [id, List.getElem?_append_left (List.getElem?_eq_some_iff.mp e).1]; exact e) r
  rwa [renVs_id] at this
theorem RepO.more {X : Cx} {as bs : List Addr} {h : Heap} {o : Obj} {x : MO} (r : RepO X as h o x) : RepO X (as ++ bs) h o x := by
  have := RepO.ren (as' := as ++ bs) (f := id) (fun i z_ a e => by rw [id, List.getElem?_append_left (List.getElem?_eq_some_iff.mp e).1]; exact e) r
  rwa [renO_id] at this

/-! ### frames, stores, states -/
structure EnvOK (env : Env) (names : Names) : Prop where
  nm : env.scope.names = names
  kind : env.scope.kind = .function
  globals : env.globals = mainGlobals
  builtins : env.builtins = builtinsNs
  nodup : (names.map (·.1)).Nodup
  cells : ∀ x, names.lookup x = some .cell → ∃ a, env.cells.lookup x = some a

noncomputable def VarAt (X : Cx) (env : Env) (as : List Addr) (h : Heap) (m : Str → Option Value) (x : Str) (mv : MV) : NameKind → Prop := fun y1_ => match y1_ with
  | .local => ∃ v, m x = some v ∧ RepM X as h v mv
  | .cell => ∃ a v, env.cells.lookup x = some a ∧ h.IsCell a (some v) ∧ RepM X as h v mv
  | z1_ => False
noncomputable def FrObj (o : Obj) : Prop := ∃ es n, o.data = .dict es n
structure FrameOK (X : Cx) (env : Env) (names : Names) (ρ : List (Option MV)) (as : List Addr) (h : Heap) (m : Str → Option Value) : Prop where
  ns : h.Ns env.locals m
  high : X.g1.objs.size ≤ env.locals
  off : env.locals ∉ as
  len : ρ.length = names.length
  var : ∀ (i : Nat) (mv : MV) (x : Str) (k : NameKind), ρ[i]? = some (some mv) → names[i]? = some (x, k) → VarAt X env as h m x mv k

structure St (X : Cx) (env : Env) (names : Names) (c : AS) (as : List Addr) (h : Heap) : Prop where
  base : Base X h
  frame : ∃ m, FrameOK X env names c.ρ as h m
  store : StoreOK X h as c.σ

/-- all but the owned stays; the frames below may get their slots -/
noncomputable def Kp (F O : List Addr) (h h' : Heap) : Prop :=
  ∀ b o, h.get? b = some o → b ∉ O → b ≠ PT → ∃ sl, h'.get? b = some { o with slots := sl } ∧ (b ∉ F → sl = o.slots)
theorem Kp.refl (F O : List Addr) (h : Heap) : Kp F O h h := fun b o e z_ z_ => ⟨o.slots, e, fun z_ => rfl⟩
theorem Kp.all {F O : List Addr} {h h' : Heap} (k : ∀ b o, h.get? b = some o → h'.get? b = some o) : Kp F O h h' := fun b o e z_ z_ => ⟨o.slots, k b o e, fun z_ => rfl⟩
theorem Kp.exact {F O : List Addr} {h h' : Heap} (k : Kp F O h h') {b : Addr} {o : Obj} (e : h.get? b = some o) (hO : b ∉ O) (hP : b ≠ PT) (hF : b ∉ F) : h'.get? b = some o := by
  obtain ⟨sl, e', q⟩ := k b o e hO hP
  rw [q hF] at e'
  exact e'
theorem Kp.trans {F O O' : List Addr} {h h' h'' : Heap} (k : Kp F O h h') (k' : Kp F O' h' h'') (hO : ∀ b ∈ O', b ∈ O ∨ h.get? b = none) : Kp F O h h'' := fun b o e n p => by
  obtain ⟨sl, e', q⟩ := k b o e n p
  clear k
  obtain ⟨sl', e'', q'⟩ := k' b _ e' (fun m => (hO b m).elim n (fun z => by rw [e] at z; cases z)) p
  exact ⟨sl', e'', fun f => (q' f).trans (q f)⟩
theorem Kp.mono {F O O' : List Addr} {h h' : Heap} (k : Kp F O h h') (s : ∀ b ∈ O, b ∈ O') : Kp F O' h h' := fun b o e n p => k b o e (fun m => n (s b m)) p

noncomputable def frAddrs (A : Around) : List Addr := match A.frames with
  | some l => l.filterMap (·.frame)
  | none => []
/-- a frame that stands on the stack -/
noncomputable def FrAt (h : Heap) (e : Env) : Prop := e.scope.kind ≠ .module ∧ ∃ L o, e.frame = some L ∧ h.get? L = some o ∧ FrObj o
structure ACond (X : Cx) (A : Around) (r : Nat) (as : List Addr) (h : Heap) : Prop where
  handled : A.handled = none
  depth : A.depth + r + 10 < recursionLimit
  units : A.units + 12 * r + 100 < cLine
  frames : ∃ l, A.frames = some l ∧ ∀ e ∈ l, FrAt h e
  off : ∀ b ∈ frAddrs A, b ∉ as
  high : ∀ b ∈ frAddrs A, X.g1.objs.size ≤ b
theorem FrameOK.obj {X : Cx} {env : Env} {names : Names} {ρ : List (Option MV)} {as : List Addr} {h : Heap} {m : Str → Option Value} (F : FrameOK X env names ρ as h m) : ∃ o, h.get? env.locals = some o ∧ FrObj o := by
  obtain ⟨o, es, n, e, hd, _⟩ := F.ns
  exact ⟨o, e, es, n, hd⟩

theorem Base.keepK {X : Cx} (G : X.Good) {h : Heap} (B : Base X h) : X.K.In h := G.KX.keeps B.1
theorem Base.low {X : Cx} {h : Heap} (B : Base X h) {b : Addr} {o : Obj} (e : X.g1.get? b = some o) : b < X.g1.objs.size := Heap.lt_size e

theorem trip_no {q : Str} {u : Nat} : ∀ {l : List Value}, TriplesOk l → l[1]? ≠ some (.str q u)
  | [], _, h => nomatch h
  | [_], _, h => nomatch h
  | a :: b :: r, ht, h => by
    rw [Option.some.inj (show some b = some (.str q u) from h)] at ht
    cases a <;> exact ht
theorem tab_notImm {h : Heap} (t : TabOK h) {o : Obj} (e : h.get? PT = some o) : ¬ Imm o := by
  obtain ⟨ps, e', ht, _⟩ := t
  rw [Option.some.inj (e.symm.trans e')]
  exact fun ⟨q, u, h⟩ => trip_no ht (by rw [Array.getElem?_toList]; exact h)
theorem frObj_notImm {o : Obj} (f : FrObj o) : ¬ Imm o := by
  obtain ⟨es, n, hd⟩ := f
  unfold Imm
  rw [hd]
  exact id
theorem nFr_fields {o : Obj} {vs : Array Value} (hd : o.data = .fields vs) : ¬ FrObj o := fun ⟨_, _, q⟩ => nomatch hd.symm.trans q
theorem list_ne : (Value.type "list") ≠ .type "tuple" := by decide
theorem repO_notImm {X : Cx} {as : List Addr} {h : Heap} {o : Obj} {x : MO} (r : RepO X as h o x) : ¬ Imm o := by
  cases x with
  | lst l => obtain ⟨vs, n, e, _⟩ := r; rw [e]; exact list_ne
  | dct es => obtain ⟨des, n, e, _⟩ := r; rw [e]; exact id
  | inst C d => obtain ⟨dx, _, e⟩ := r; rw [e]; exact id
  | fn k => obtain ⟨params, body, scope, pm, c', ctv, h1, e, h3⟩ := r; rw [e]; exact id
theorem frAt_notImm {h : Heap} {e : Env} (f : FrAt h e) : ∃ L o, e.frame = some L ∧ h.get? L = some o ∧ ¬ Imm o := by
  obtain ⟨_, L, o, hf, ho, hd⟩ := f
  exact ⟨L, o, hf, ho, frObj_notImm hd⟩
theorem ACond.notImm {X : Cx} {A : Around} {r : Nat} {as : List Addr} {h : Heap} (a : ACond X A r as h) {b : Addr} {o : Obj} (hb : b ∈ frAddrs A) (e : h.get? b = some o) : ¬ Imm o := by
  obtain ⟨l, hl, hf⟩ := a.frames
  unfold frAddrs at hb
  rw [hl] at hb
  clear a as hl r
  obtain ⟨env, he, hfr⟩ := List.mem_filterMap.mp hb
  clear A X hb
  obtain ⟨L, o', h1, h2, h3⟩ := frAt_notImm (hf env he)
  rw [h1] at hfr
  clear h1 he hf l
  cases hfr
  rw [e] at h2
  clear e env h
  cases h2
  exact h3
theorem StoreOK.at {X : Cx} {h : Heap} {as : List Addr} {σ : List MO} (s : StoreOK X h as σ) {i : Nat} {a : Addr} (e : as[i]? = some a) : ∃ o ob, σ[i]? = some o ∧ X.g1.objs.size ≤ a ∧ h.get? a = some ob ∧ RepO X as h ob o := by
  have hl := (List.getElem?_eq_some_iff.mp e).1
  rw [s.1] at hl
  obtain ⟨a', ob, h1, h2, h3, h4⟩ := s.2.2 i σ[i] (List.getElem?_eq_getElem hl)
  rw [e] at h1
  clear e s
  cases h1
  exact ⟨_, ob, List.getElem?_eq_getElem hl, h2, h3, h4⟩
theorem StoreOK.mem {X : Cx} {h : Heap} {as : List Addr} {σ : List MO} (s : StoreOK X h as σ) {a : Addr} (m : a ∈ as) : ∃ (i : Nat) (o : MO) (ob : Obj), as[i]? = some a ∧ σ[i]? = some o ∧ X.g1.objs.size ≤ a ∧ h.get? a = some ob ∧ RepO X as h ob o := by
  obtain ⟨i, hi, e⟩ := List.getElem_of_mem m
  have e' : as[i]? = some a := by rw [← e]; exact List.getElem?_eq_getElem hi
  clear e hi m
  obtain ⟨o, ob, r⟩ := s.at e'
  exact ⟨i, o, ob, e', r⟩
theorem StoreOK.notImm {X : Cx} {h : Heap} {as : List Addr} {σ : List MO} (s : StoreOK X h as σ) {a : Addr} {o : Obj} (m : a ∈ as) (e : h.get? a = some o) : ¬ Imm o := by
  obtain ⟨i, x, ob, _, _, _, h3, h4⟩ := s.mem m
  rw [e] at h3
  clear e m s
  cases h3
  exact repO_notImm h4
/-- what a call may change is of no immutable kind -/
theorem Kp.tkeep {X : Cx} {A : Around} {r : Nat} {as : List Addr} {h h' : Heap} {O : List Addr} (k : Kp (frAddrs A) O h h') (B : Base X h) (a : ACond X A r as h) (hO : ∀ b ∈ O, ∀ o, h.get? b = some o → ¬ Imm o) : TKeep h h' := fun b o e i =>
  k.exact e (fun m => hO b m o e i) (fun q => by subst q; exact tab_notImm B.2 e i) fun m => a.notImm m e i
theorem tkeep_all {h h' : Heap} (k : ∀ b o, h.get? b = some o → h'.get? b = some o) : TKeep h h' := fun b o e z_ => k b o e
theorem tkeep_upd {h : Heap} {a : Addr} {f : Obj → Obj} {o : Obj} (e : h.get? a = some o) (n : ¬ Imm o) : TKeep h (h.update a f) := fun b o' e' i => by
  rw [Heap.get?_update_other _ _ (fun q => by subst q; rw [e] at e'; cases e'; exact n i)]
  exact e'
end Mine
namespace Mine

theorem TabOK.of {h h' : Heap} (t : TabOK h) (e : h'.get? PT = h.get? PT) (k : TKeep h h') : TabOK h' := by
  obtain ⟨ps, e', ht, hc⟩ := t
  refine ⟨ps, e.trans e', ht, fun pos cv q => ?_⟩
  clear e e' ht
  obtain ⟨c, hv, hr⟩ := hc pos cv q
  exact ⟨c, hv, codeRec_keep k hr⟩
theorem Base.keep {X : Cx} {h h' : Heap} (B : Base X h) (k : ∀ b o, h.get? b = some o → h'.get? b = some o) : Base X h' :=
  ⟨fun b o e => k _ _ (B.1 b o e), B.2.of (by obtain ⟨ps, e, _⟩ := B.2; rw [e]; exact k _ _ e) (tkeep_all k)⟩
theorem Base.of {X : Cx} (G : X.Good) {h h' : Heap} (B : Base X h) (e : ∀ b, b < X.g1.objs.size → h'.get? b = h.get? b) (k : TKeep h h') : Base X h' :=
  ⟨fun b o q => (e b (Heap.lt_size q)).trans (B.1 b o q), B.2.of (e _ G.pt) k⟩
theorem VarAt.keep {X : Cx} {env : Env} {as : List Addr} {h h' : Heap} {m : Str → Option Value} {x : Str} {mv : MV} (k : TKeep h h') : ∀ {kd : NameKind}, VarAt X env as h m x mv kd → VarAt X env as h' m x mv kd := @fun y1_ y2_ => match y1_, y2_ with
  | .local, ⟨v, e, r⟩ => ⟨v, e, r.keep k⟩
  | .cell, ⟨a, v, e, ⟨o, ho, hd⟩, r⟩ => ⟨a, v, e, ⟨o, k _ _ ho (.cell hd), hd⟩, r.keep k⟩
theorem VarAt.more {X : Cx} {env : Env} {as bs : List Addr} {h : Heap} {m : Str → Option Value} {x : Str} {mv : MV} : ∀ {kd : NameKind}, VarAt X env as h m x mv kd → VarAt X env (as ++ bs) h m x mv kd := @fun y1_ y2_ => match y1_, y2_ with
  | .local, ⟨v, e, r⟩ => ⟨v, e, r.more⟩
  | .cell, ⟨a, v, e, ho, r⟩ => ⟨a, v, e, ho, r.more⟩
section
variable {X : Cx} {env : Env} {names : Names} {c : AS} {as : List Addr} {h h' : Heap} {m : Str → Option Value} {ρ : List (Option MV)}
theorem FrameOK.keep (F : FrameOK X env names ρ as h m) (k : ∀ b o, h.get? b = some o → h'.get? b = some o) : FrameOK X env names ρ as h' m :=
  ⟨F.ns.keeps k, F.high, F.off, F.len, fun i mv x kd e q => (F.var i mv x kd e q).keep (tkeep_all k)⟩
theorem StoreOK.keep {σ : List MO} (s : StoreOK X h as σ) (k : ∀ b o, h.get? b = some o → h'.get? b = some o) : StoreOK X h' as σ :=
  ⟨s.1, s.2.1, fun i o e => let ⟨a, ob, h1, h2, h3, h4⟩ := s.2.2 i o e; ⟨a, ob, h1, h2, k _ _ h3, h4.keep (tkeep_all k)⟩⟩
theorem St.keep (s : St X env names c as h) (k : ∀ b o, h.get? b = some o → h'.get? b = some o) : St X env names c as h' :=
  ⟨s.base.keep k, let ⟨m, F⟩ := s.frame; ⟨m, F.keep k⟩, s.store.keep k⟩
theorem St.push (s : St X env names c as h) (o : Obj) : St X env names c as (h.push o) := s.keep fun z_ z_ e => Heap.get?_push_of_some _ e
theorem St.low (s : St X env names c as h) : X.g1.objs.size ≤ h.objs.size := by
  obtain ⟨m, F⟩ := s.frame
  clear s
  obtain ⟨o, e, _⟩ := F.obj
  exact Nat.le_trans F.high (Nat.le_of_lt (Heap.lt_size e))
theorem StoreOK.lt {σ : List MO} (s : StoreOK X h as σ) {a : Addr} (ha : a ∈ as) : a < h.objs.size := by
  obtain ⟨i, o, ob, _, _, _, e, _⟩ := s.mem ha
  exact Heap.lt_size e
theorem StoreOK.new {σ : List MO} (s : StoreOK X h as σ) (hl : X.g1.objs.size ≤ h.objs.size) {o : Obj} {mo : MO} (hf : o.isFreed = false) (hr : RepO X (as ++ [h.objs.size]) (h.push o) o mo) : StoreOK X (h.push o) (as ++ [h.objs.size]) (σ ++ [mo]) := by
  have k : ∀ b o', h.get? b = some o' → (h.push o).get? b = some o' := fun z_ z_ e => Heap.get?_push_of_some _ e
  refine ⟨by simp [s.1], ?_, fun i x e => ?_⟩
  · refine List.nodup_append.mpr ⟨s.2.1, by simp, fun a ha b hb => ?_⟩
    rw [List.mem_singleton.mp hb]
    exact Nat.ne_of_lt (s.lt ha)
  · by_cases hi : i < σ.length
    · rw [List.getElem?_append_left hi] at e
      clear hf hl hr mo
      obtain ⟨a, ob, h1, h2, h3, h4⟩ := s.2.2 i x e
      exact ⟨a, ob, by rw [List.getElem?_append_left (by rw [s.1]; exact hi)]; exact h1, h2, k _ _ h3, (h4.keep (tkeep_all k)).more⟩
    · have hi' : i = σ.length := by
        have := (List.getElem?_eq_some_iff.mp e).1
        rw [List.length_append] at this
        exact Nat.le_antisymm (Nat.le_of_lt_succ this) (Nat.not_lt.mp hi)
      clear hi k
      subst hi'
      rw [List.getElem?_concat_length] at e
      cases e
      exact ⟨h.objs.size, o, by rw [← s.1, List.getElem?_concat_length], hl, Heap.get?_push_size _ hf, hr⟩
theorem FrameOK.more {bs : List Addr} (F : FrameOK X env names ρ as h m) (hb : env.locals ∉ bs) : FrameOK X env names ρ (as ++ bs) h m :=
  ⟨F.ns, F.high, fun q => (List.mem_append.mp q).elim F.off hb, F.len, fun i mv x kd e q => (F.var i mv x kd e q).more⟩
theorem St.new (s : St X env names c as h) {o : Obj} {mo : MO} (hf : o.isFreed = false) (hr : RepO X (as ++ [h.objs.size]) (h.push o) o mo) :
    St X env names ⟨c.ρ, c.σ ++ [mo]⟩ (as ++ [h.objs.size]) (h.push o) := by
  have s' := s.push o
  obtain ⟨m, F⟩ := s'.frame
  refine ⟨s'.base, ⟨m, F.more fun q => ?_⟩, s.store.new s.low hf hr⟩
  clear F hf hr m mo s'
  obtain ⟨m₀, F₀⟩ := s.frame
  exact absurd (List.mem_singleton.mp q) (Nat.ne_of_lt F₀.ns.lt)
theorem StoreOK.upd {σ : List MO} (s : StoreOK X h as σ) {j : Nat} {a : Addr} {ob : Obj} {f : Obj → Obj} {mo : MO} (hj : as[j]? = some a) (ho : h.get? a = some ob) (hf : (f ob).isFreed = false) (hr : RepO X as (h.update a f) (f ob) mo) :
    StoreOK X (h.update a f) as (σ.set j mo) := by
  have hn : ¬ Imm ob := s.notImm (List.mem_of_getElem? hj) ho
  refine ⟨by simp [s.1], s.2.1, fun i x e => ?_⟩
  by_cases hi : i = j
  · clear hn
    subst hi
    have hl := (List.getElem?_eq_some_iff.mp e).1
    rw [List.length_set] at hl
    rw [List.getElem?_set_self hl] at e
    clear hl
    cases e
    obtain ⟨o, ob', h1, h2, h3, h4⟩ := s.at hj
    exact ⟨a, _, hj, h2, Heap.get?_update_self _ ho hf, hr⟩
  · rw [List.getElem?_set_ne (Ne.symm hi)] at e
    clear hf hr mo
    obtain ⟨b, ob', h1, h2, h3, h4⟩ := s.2.2 i x e
    have hne : a ≠ b := by
      intro q
      clear e f h2 h3 h4 hn ho ob ob' x
      subst q
      have l1 := (List.getElem?_eq_some_iff.mp h1)
      have l2 := (List.getElem?_eq_some_iff.mp hj)
      exact hi ((List.getElem_inj s.2.1).mp (l1.2.trans l2.2.symm))
    exact ⟨b, ob', h1, h2, by rw [Heap.get?_update_other _ _ hne]; exact h3, h4.keep (tkeep_upd ho hn)⟩
theorem FrameOK.upd (F : FrameOK X env names ρ as h m) {a : Addr} {ob : Obj} {f : Obj → Obj} (hn : ¬ Imm ob) (ho : h.get? a = some ob) (ha : a ≠ env.locals) : FrameOK X env names ρ as (h.update a f) m := by
  have ne : ∀ b, b ≠ a → (h.update a f).get? b = h.get? b := fun b n => Heap.get?_update_other _ _ (Ne.symm n)
  clear ne
  obtain ⟨o, e, fo⟩ := F.obj
  refine ⟨F.ns.sameBut (Heap.SameBut.update ..) (Ne.symm ha), F.high, F.off, F.len, fun i mv x kd e q => (F.var i mv x kd e q).keep (tkeep_upd ho hn)⟩
theorem St.upd (G : X.Good) (s : St X env names c as h) {j : Nat} {a : Addr} {ob : Obj} {f : Obj → Obj} {mo : MO} (hj : as[j]? = some a) (ho : h.get? a = some ob) (hf : (f ob).isFreed = false) (hr : RepO X as (h.update a f) (f ob) mo) :
    St X env names ⟨c.ρ, c.σ.set j mo⟩ as (h.update a f) := by
  have hn : ¬ Imm ob := s.store.notImm (List.mem_of_getElem? hj) ho
  obtain ⟨m, F⟩ := s.frame
  obtain ⟨_, _, _, h2, _, _⟩ := s.store.at hj
  refine ⟨s.base.of G (fun b hb => Heap.get?_update_other _ _ (fun q => by subst q; exact absurd hb (Nat.not_lt.mpr h2))) (tkeep_upd ho hn), ⟨m, F.upd hn ho (fun q => ?_)⟩, s.store.upd hj ho hf hr⟩
  clear G h2 hf hn ho hr mo ob s
  subst q
  exact F.off (List.mem_of_getElem? hj)

theorem ns_get {h : Heap} {L : Addr} {m m' : Str → Option Value} (e : h.Ns L m) (e' : h.Ns L m') : m = m' := by
  obtain ⟨o, es, ep, ho, hd, _, q⟩ := e
  obtain ⟨o', es', ep', ho', hd', _, q'⟩ := e'
  rw [ho] at ho'
  clear ho
  cases ho'
  rw [hd] at hd'
  clear L h hd o
  cases hd'
  exact funext fun x => (q x).symm.trans (q' x)

/-- a name is stored -/
theorem nameAt_ne {names : Names} (nd : (names.map (·.1)).Nodup) {i j : Nat} {x y : Str} {k k' : NameKind} (hi : names[i]? = some (x, k)) (hj : names[j]? = some (y, k')) (h : i ≠ j) : y ≠ x := by
  intro e
  subst e
  have l1 := List.getElem?_eq_some_iff.mp hi
  have l2 := List.getElem?_eq_some_iff.mp hj
  have e1 : (names.map (·.1))[i]'(by rw [List.length_map]; exact l1.1) = y := by rw [List.getElem_map, l1.2]
  have e2 : (names.map (·.1))[j]'(by rw [List.length_map]; exact l2.1) = y := by rw [List.getElem_map, l2.2]
  exact h ((List.getElem_inj nd).mp (e1.trans e2.symm))
theorem FrameOK.put (E : EnvOK env names) (F : FrameOK X env names ρ as h m) {h' : Heap} {i : Nat} {x : Str} {v : Value} {mv : MV} (hi : names[i]? = some (x, .local))
    (hn : h'.Ns env.locals (fun y => if y = x then some v else m y)) (hs : Heap.SameBut env.locals h h') (hr : RepM X as h v mv) :
    FrameOK X env names (ρ.set i (some mv)) as h' (fun y => if y = x then some v else m y) := by
  obtain ⟨o, e, fo⟩ := F.obj
  have k : TKeep h h' := fun b o' e' im => (hs.2 b (fun q => by subst q; rw [e] at e'; cases e'; exact frObj_notImm fo im)).trans e'
  refine ⟨hn, F.high, F.off, by rw [List.length_set]; exact F.len, fun j mv' y kd e1 e2 => ?_⟩
  by_cases hj : j = i
  · clear E F e fo hn hs o
    subst hj
    rw [hi] at e2
    clear hi
    cases e2
    have hl := (List.getElem?_eq_some_iff.mp e1).1
    rw [List.length_set] at hl
    rw [List.getElem?_set_self hl] at e1
    clear hl j
    cases e1
    exact ⟨v, by simp, hr.keep k⟩
  · rw [List.getElem?_set_ne (Ne.symm hj)] at e1
    have z := (F.var j mv' y kd e1 e2).keep k
    have ny := nameAt_ne E.nodup hi e2 (Ne.symm hj)
    clear E F e e1 e2 fo hi hj hn hr hs i j k mv o
    cases kd with
    | «local» => obtain ⟨u, q, r⟩ := z; exact ⟨u, by simp only [if_neg ny]; exact q, r⟩
    | cell => exact z
    | free => exact z
    | globalExplicit => exact z
    | globalImplicit => exact z
theorem St.put (G : X.Good) (E : EnvOK env names) (s : St X env names c as h) {h' : Heap} {i : Nat} {x : Str} {v : Value} {mv : MV} (F : FrameOK X env names c.ρ as h m) (hi : names[i]? = some (x, .local))
    (hn : h'.Ns env.locals (fun y => if y = x then some v else m y)) (hs : Heap.SameBut env.locals h h') (hr : RepM X as h v mv) :
    St X env names ⟨c.ρ.set i (some mv), c.σ⟩ as h' := by
  obtain ⟨o, e, fo⟩ := F.obj
  have k : TKeep h h' := fun b o' e' im => (hs.2 b (fun q => by subst q; rw [e] at e'; cases e'; exact frObj_notImm fo im)).trans e'
  refine ⟨s.base.of G (fun b hb => hs.2 b (fun q => by subst q; exact absurd hb (Nat.not_lt.mpr F.high))) k, ⟨_, F.put E hi hn hs hr⟩, s.store.1, s.store.2.1, fun j x e => ?_⟩
  clear E G fo hi hn hr v
  obtain ⟨a, ob, h1, h2, h3, h4⟩ := s.store.2.2 j x e
  exact ⟨a, ob, h1, h2, (hs.2 a (fun q => by subst q; exact F.off (List.mem_of_getElem? h1))).trans h3, h4.keep k⟩
end
end Mine
namespace Mine

/-! ## the judgement: a tree, from a state, gives what the condition generator says -/

/-- an exception of MacroFault in flight through the frame of `env` -/
noncomputable def ExcIn (h : Heap) (e : Addr) (fr : Option Addr) : Prop :=
  ∃ oe vs, h.get? e = some oe ∧ oe.cls = .ref 45 ∧ oe.data = .fields vs ∧ 4 < vs.size ∧
    (vs[1]? = some .none ∨ ∃ T oT ts, vs[1]? = some (.ref T) ∧ T ≠ e ∧ h.get? T = some oT ∧ oT.data = .fields ts ∧ (∃ f : Addr, ts[1]? = some (.ref f)) ∧ (ts[3]? = some .none ∨ ∃ f, fr = some f ∧ ts[3]? = some (rawInt f)))

structure At (X : Cx) (r : Nat) (env : Env) (names : Names) (A : Around) (as : List Addr) (s : Shared) (c' : AS) (as' : List Addr) (s' : Shared) : Prop where
  cond : ACond X A r as' s'.heap
  st : St X env names c' as' s'.heap
  kp : Kp (frAddrs A) (env.locals :: as) s.heap s'.heap
  ext : ∃ bs, as' = as ++ bs ∧ ∀ x ∈ bs, s.heap.get? x = none
  same : ∃ h tk, s' = { s with heap := h, toks := tk }

/-- the traceback of an exception -/
noncomputable def TbOf (h : Heap) (e T : Addr) : Prop := ∃ oe vs, h.get? e = some oe ∧ oe.data = .fields vs ∧ vs[1]? = some (.ref T)
structure ThrownAt (X : Cx) (env : Env) (A : Around) (as : List Addr) (s : Shared) (e : Addr) (s' : Shared) : Prop where
  base : Base X s'.heap
  kp : Kp (frAddrs A) (env.locals :: as) s.heap s'.heap
  fr : ∃ m, s'.heap.Ns env.locals m
  exc : ExcIn s'.heap e env.frame
  new : s.heap.get? e = none
  newT : ∀ T, TbOf s'.heap e T → s.heap.get? T = none
  there : ∀ b, s'.heap.get? b = none → s.heap.get? b = none
  same : ∃ h tk, s' = { s with heap := h, toks := tk }

noncomputable def SemP (X : Cx) (r : Nat) (env : Env) (names : Names) (Xc : Prop) {α β : Type} (P : List Addr → Heap → Prop) (R : List Addr → Heap → α → β → Prop) (t : Sem α) (c : AS) (Q : β → AS → Prop) : Prop :=
  ∀ (A : Around) (as : List Addr) (s : Shared) (K : α → Shared → Prop) (E : Value → Shared → Prop), ACond X A r as s.heap → St X env names c as s.heap → P as s.heap →
    (∀ a b c' as' s', At X r env names A as s c' as' s' → R as' s'.heap a b → Q b c' → K a s') →
    (Xc → ∀ e s', ThrownAt X env A as s e s' → E (.ref e) s') →
    wpAny (model X.prog X.w) A t K E s

abbrev RV (X : Cx) : List Addr → Heap → Value → MV → Prop := fun as h v m => RepM X as h v m
abbrev RL (X : Cx) : List Addr → Heap → List Value → List MV → Prop := fun as h v m => RepMs X as h v m
abbrev RB : List Addr → Heap → Bool → Bool → Prop := fun z_ z_ a b => a = b
abbrev RU : List Addr → Heap → Unit → Unit → Prop := fun z_ z_ z_ z_ => True
abbrev PT0 : List Addr → Heap → Prop := fun z_ z_ => True
abbrev SemE (X : Cx) (r : Nat) (env : Env) (names : Names) (Xc : Prop) (t : Sem Value) (c : AS) (Q : MV → AS → Prop) : Prop := SemP X r env names Xc PT0 (RV X) t c Q
abbrev SemB (X : Cx) (r : Nat) (env : Env) (names : Names) (Xc : Prop) (t : Sem Bool) (c : AS) (Q : Bool → AS → Prop) : Prop := SemP X r env names Xc PT0 RB t c Q

section
variable {X : Cx} {r : Nat} {env : Env} {names : Names} {Xc : Prop} {A : Around} {as as' as'' : List Addr} {s s' s'' : Shared} {c c' c'' : AS}

theorem St.owned (st : St X env names c as s.heap) : ∀ b ∈ env.locals :: as, ∀ o, s.heap.get? b = some o → ¬ Imm o := fun b hb o e => by
  obtain ⟨m, F⟩ := st.frame
  rcases List.mem_cons.mp hb with rfl | hb
  · clear hb st
    obtain ⟨o', e', f⟩ := F.obj
    rw [e] at e'
    clear F e m
    cases e'
    exact frObj_notImm f
  · exact st.store.notImm hb e
theorem At.tkeep (a : ACond X A r as s.heap) (st : St X env names c as s.heap) (n : At X r env names A as s c' as' s') : TKeep s.heap s'.heap := n.kp.tkeep st.base a st.owned
theorem At.rep (a : ACond X A r as s.heap) (st : St X env names c as s.heap) (n : At X r env names A as s c' as' s') {v : Value} {mv : MV} (h : RepM X as s.heap v mv) : RepM X as' s'.heap v mv := by
  obtain ⟨bs, e, _⟩ := n.ext
  subst e
  exact (h.keep (n.tkeep a st)).more
theorem At.reps (a : ACond X A r as s.heap) (st : St X env names c as s.heap) (n : At X r env names A as s c' as' s') {v : List Value} {mv : List MV} (h : RepMs X as s.heap v mv) : RepMs X as' s'.heap v mv := by
  obtain ⟨bs, e, _⟩ := n.ext
  subst e
  exact (h.keep (n.tkeep a st)).more
theorem At.owned' (n : At X r env names A as s c' as' s') : ∀ b ∈ env.locals :: as', b ∈ env.locals :: as ∨ s.heap.get? b = none := fun b hb => by
  obtain ⟨bs, e, hn⟩ := n.ext
  clear n
  subst e
  clear A X c' names r s'
  rcases List.mem_cons.mp hb with rfl | hb
  · exact .inl (.head _)
  · rcases List.mem_append.mp hb with hb | hb
    · exact .inl (.tail _ hb)
    · exact .inr (hn b hb)
theorem Kp.none' {F O : List Addr} {h h' : Heap} (k : Kp F O h h') {b : Addr} (e : h'.get? b = none) (hO : b ∉ O) (hP : b ≠ PT) : h.get? b = none := by
  cases q : h.get? b with
  | none => rfl
  | some o => obtain ⟨sl, e', _⟩ := k b o q hO hP; rw [e] at e'; cases e'
theorem At.trans (n : At X r env names A as s c' as' s') (n' : At X r env names A as' s' c'' as'' s'') (hb : ∀ b, s'.heap.get? b = none → s.heap.get? b = none) : At X r env names A as s c'' as'' s'' := by
  refine ⟨n'.cond, n'.st, n.kp.trans n'.kp n.owned', ?_, ?_⟩
  · obtain ⟨bs, e, h1⟩ := n.ext
    clear n
    obtain ⟨bs', e', h2⟩ := n'.ext
    clear n'
    subst e
    clear A X c' c'' env names r s''
    subst e'
    refine ⟨bs ++ bs', List.append_assoc .., fun x hx => ?_⟩
    clear as
    rcases List.mem_append.mp hx with hx | hx
    · exact h1 x hx
    · exact hb x (h2 x hx)
  · clear hb
    have q_ := n.same
    clear n
    obtain ⟨h, tk, rfl⟩ := q_
    clear as c'
    have q_ := n'.same
    clear n' names r
    obtain ⟨h', tk', rfl⟩ := q_
    exact ⟨h', tk', rfl⟩
/-- what was there is there -/
theorem At.there (st : St X env names c as s.heap) (n : At X r env names A as s c' as' s') : ∀ b, s'.heap.get? b = none → s.heap.get? b = none := fun b e => by
  clear st
  obtain ⟨bs, eb, _⟩ := n.ext
  by_cases hP : b = PT
  · clear eb
    subst hP
    obtain ⟨ps, e', _⟩ := n.st.base.2
    rw [e] at e'
    clear e n
    cases e'
  by_cases hL : b = env.locals
  · clear eb hP
    subst hL
    obtain ⟨m, F⟩ := n.st.frame
    clear n
    obtain ⟨o, e', _⟩ := F.obj
    rw [e] at e'
    clear F e m
    cases e'
  by_cases ha : b ∈ as
  · clear hL hP
    obtain ⟨i, o, ob, _, _, _, e', _⟩ := n.st.store.mem (a := b) (by rw [eb]; exact List.mem_append_left _ ha)
    rw [e] at e'
    clear e eb ha n
    cases e'
  · exact n.kp.none' e (fun q => (List.mem_cons.mp q).elim hL ha) hP
theorem ThrownAt.after (st : St X env names c as s.heap) (n : At X r env names A as s c' as' s') {e : Addr} (t : ThrownAt X env A as' s' e s'') : ThrownAt X env A as s e s'' := by
  refine ⟨t.base, n.kp.trans t.kp n.owned', t.fr, t.exc, n.there st _ t.new, fun T hT => n.there st _ (t.newT T hT), fun b hb => n.there st _ (t.there b hb), ?_⟩
  clear st
  have q_ := n.same
  clear n
  obtain ⟨h, tk, rfl⟩ := q_
  clear as c c' names r
  have q_ := t.same
  clear t
  obtain ⟨h', tk', rfl⟩ := q_
  exact ⟨h', tk', rfl⟩
theorem At.refl (a : ACond X A r as s.heap) (st : St X env names c as s.heap) : At X r env names A as s c as s :=
  ⟨a, st, Kp.refl _ _ _, ⟨[], by simp, fun z_ h => (nomatch h)⟩, ⟨s.heap, s.toks, rfl⟩⟩

theorem ACond.kp {O : List Addr} {h h' : Heap} (a : ACond X A r as h) (k : Kp (frAddrs A) O h h') (B : Base X h) (hO : ∀ b ∈ O, b ∈ frAddrs A → ∃ o, h'.get? b = some o ∧ FrObj o) (ho : ∀ x ∈ as', x ∈ as ∨ h.get? x = none) : ACond X A r as' h' := by
  obtain ⟨l, hl, hf⟩ := a.frames
  have mem : ∀ e ∈ l, ∀ L, e.frame = some L → L ∈ frAddrs A := fun e he L h2 => by
    unfold frAddrs
    rw [hl]
    exact List.mem_filterMap.mpr ⟨e, he, h2⟩
  refine ⟨a.handled, a.depth, a.units, ⟨l, hl, fun e he => ?_⟩, fun b hb hx => ?_, a.high⟩
  · clear a hl ho
    obtain ⟨h1, L, o, h2, h3, h4⟩ := hf e he
    have hm := mem e he L h2
    by_cases hb : L ∈ O
    · clear B h3 h4 he hf k mem o
      obtain ⟨o', q1, q2⟩ := hO L hb hm
      exact ⟨h1, L, o', h2, q1, q2⟩
    · have hP : L ≠ PT := by
        intro q
        clear h1 h2 hO hb he hf hm k mem
        subst q
        clear O e h' l
        obtain ⟨ps, e', _⟩ := B.2
        rw [h3] at e'
        clear B h3
        cases e'
        obtain ⟨es, n, h4⟩ := h4
        cases h4
      clear B hO he hf hm mem
      obtain ⟨sl, q1, _⟩ := k L o h3 hb hP
      exact ⟨h1, L, _, h2, q1, h4⟩
  · clear B hO k mem
    have q_ := ho b hx
    clear O h' ho hx
    rcases q_ with q | q
    · exact a.off b hb q
    · unfold frAddrs at hb
      rw [hl] at hb
      clear a hl
      obtain ⟨ev, he, hev⟩ := List.mem_filterMap.mp hb
      clear hb
      obtain ⟨_, L, o, h2, h3, _⟩ := hf ev he
      have eL : L = b := Option.some.inj (h2.symm.trans hev)
      clear h2 he hev hf l
      subst eL
      rw [q] at h3
      clear q
      cases h3

/-- a sequel -/
theorem SemP.bind {α β γ δ : Type} {P P' : List Addr → Heap → Prop} {R : List Addr → Heap → α → β → Prop} {R' : List Addr → Heap → γ → δ → Prop} {t : Sem α} {f : α → Sem γ} {Q : β → AS → Prop} {Q' : δ → AS → Prop}
    (h1 : SemP X r env names Xc P R t c Q) (hp : ∀ as as' h h', P as h → TKeep h h' → (∃ bs, as' = as ++ bs) → P' as' h')
    (h2 : ∀ a b c', Q b c' → SemP X r env names Xc (fun as h => P' as h ∧ R as h a b) R' (f a) c' Q') : SemP X r env names Xc P R' (t >>= f) c Q' := by
  intro A as s K E a st hP hk hx
  refine wpAny_bind (h1 A as s _ E a st hP (fun v b c' as' s' n hr hq => ?_) hx)
  refine h2 v b c' hq A as' s' K E n.cond n.st ⟨hp as as' _ _ hP (n.tkeep a st) (let ⟨bs, e, _⟩ := n.ext; ⟨bs, e⟩), hr⟩ (fun v' b' c'' as'' s'' n' hr' hq' => ?_) fun x e s'' t => hx x e s'' (t.after st n)
  exact hk v' b' c'' as'' s'' (n.trans n' (n.there st)) hr' hq'
theorem SemP.mono {α β : Type} {P P' : List Addr → Heap → Prop} {R : List Addr → Heap → α → β → Prop} {t : Sem α} {Q Q' : β → AS → Prop}
    (h : SemP X r env names Xc P R t c Q) (hp : ∀ as h, P' as h → P as h) (hq : ∀ b c, Q b c → Q' b c) : SemP X r env names Xc P' R t c Q' :=
  fun A as s K E a st hP hk hx => h A as s K E a st (hp _ _ hP) (fun v b c' as' s' n hr q => hk v b c' as' s' n hr (hq _ _ q)) hx
theorem SemP.pure {α β : Type} {P : List Addr → Heap → Prop} {R : List Addr → Heap → α → β → Prop} {a : α} {b : β} {Q : β → AS → Prop} (hr : ∀ as h, P as h → R as h a b) (hq : Q b c) : SemP X r env names Xc P R (Pure.pure a) c Q :=
  fun A as s K E ac st hP hk hx => wpAny_pure (hk a b c as s (.refl ac st) (hr _ _ hP) hq)

theorem ACond.frObj (a : ACond X A r as s.heap) {b : Addr} (hb : b ∈ frAddrs A) : ∃ o, s.heap.get? b = some o ∧ FrObj o := by
  obtain ⟨l, hl, hf⟩ := a.frames
  unfold frAddrs at hb
  rw [hl] at hb
  clear a hl
  obtain ⟨ev, he, hev⟩ := List.mem_filterMap.mp hb
  clear hb
  obtain ⟨_, L, o, h2, h3, h4⟩ := hf ev he
  have eL : L = b := Option.some.inj (h2.symm.trans hev)
  clear h2 he hev hf l
  subst eL
  exact ⟨o, h3, h4⟩
/-- nothing but objects of no name is new -/
theorem At.grow (a : ACond X A r as s.heap) (st : St X env names c as s.heap) {h' : Heap} {tk : Nat} (k : ∀ b o, s.heap.get? b = some o → h'.get? b = some o) : At X r env names A as s c as { s with heap := h', toks := tk } :=
  ⟨a.kp (X := X) (O := []) (.all k) st.base (fun b hb hm => let ⟨o, e, f⟩ := a.frObj hm; ⟨o, k _ _ e, f⟩) fun x hx => .inl hx, st.keep k, .all k, ⟨[], by simp, fun z_ h => (nomatch h)⟩, ⟨h', tk, rfl⟩⟩
/-- a token is drawn -/
theorem At.tok (a : ACond X A r as s.heap) (st : St X env names c as s.heap) (tk : Nat) : At X r env names A as s c as { s with toks := tk } := At.grow (h' := s.heap) a st fun z_ z_ e => e
/-- a new object of the store -/
theorem At.new (a : ACond X A r as s.heap) (st : St X env names c as s.heap) {o : Obj} {mo : MO} {tk : Nat} (hf : o.isFreed = false) (hr : RepO X (as ++ [s.heap.objs.size]) (s.heap.push o) o mo) :
    At X r env names A as s ⟨c.ρ, c.σ ++ [mo]⟩ (as ++ [s.heap.objs.size]) { s with heap := s.heap.push o, toks := tk } := by
  have fresh : ∀ x ∈ [s.heap.objs.size], s.heap.get? x = none := fun x hx => by
    rw [List.mem_singleton.mp hx]
    clear a hf hr hx mo o st tk x
    cases q : s.heap.get? s.heap.objs.size with
    | none => rfl
    | some o' => exact absurd (Heap.lt_size q) (Nat.lt_irrefl _)
  have k : ∀ b o', s.heap.get? b = some o' → (s.heap.push o).get? b = some o' := fun z_ z_ e => Heap.get?_push_of_some _ e
  exact ⟨a.kp (X := X) (O := []) (.all k) st.base (fun b hb hm => let ⟨o, e, f⟩ := a.frObj hm; ⟨o, k _ _ e, f⟩) fun x hx => (List.mem_append.mp hx).imp id (fresh x), st.new hf hr, .all k, ⟨_, rfl, fresh⟩, ⟨_, _, rfl⟩⟩
/-- an object of the store is changed -/
theorem At.upd (G : X.Good) (a : ACond X A r as s.heap) (st : St X env names c as s.heap) {j : Nat} {b : Addr} {ob : Obj} {f : Obj → Obj} {mo : MO} {tk : Nat} (hj : as[j]? = some b) (ho : s.heap.get? b = some ob) (hf : (f ob).isFreed = false) (hr : RepO X as (s.heap.update b f) (f ob) mo) :
    At X r env names A as s ⟨c.ρ, c.σ.set j mo⟩ as { s with heap := s.heap.update b f, toks := tk } := by
  have hm := List.mem_of_getElem? hj
  have hn : ¬ Imm ob := st.store.notImm hm ho
  have k : Kp (frAddrs A) (env.locals :: as) s.heap (s.heap.update b f) := fun x o e n z_ => ⟨o.slots, by
    rw [Heap.get?_update_other _ _ (fun q => by subst q; exact n (.tail _ hm))]; exact e, fun z_ => rfl⟩
  refine ⟨a.kp (X := X) k st.base (fun x hx hmx => ?_) fun x hx => .inl hx, st.upd G hj ho hf hr, k, ⟨[], by simp, fun z_ h => (nomatch h)⟩, ⟨_, _, rfl⟩⟩
  clear G hf hj hn ho hr hx j k mo ob st
  obtain ⟨o, e, f⟩ := a.frObj hmx
  exact ⟨o, by rw [Heap.get?_update_other _ _ (fun q => by subst q; exact a.off _ hmx hm)]; exact e, f⟩
end
end Mine
namespace Mine

/-! ## the primitives -/
theorem RepPs.len {X : Cx} {h : Heap} : ∀ {vs : List Value} {l : List PV}, RepPs X h vs l → vs.length = l.length := @fun y1_ y2_ y3_ => match y1_, y2_, y3_ with
  | vs, [], r => by simp only [RepPs] at r; rw [r]; rfl
  | vs, x :: xs, r => by
    simp only [RepPs] at r
    clear y3_
    obtain ⟨v, q, e, _, h2⟩ := r
    rw [e, List.length_cons, List.length_cons, RepPs.len h2]
theorem RepPs.get {X : Cx} {h : Heap} : ∀ {vs : List Value} {l : List PV} {i : Nat} {x : PV}, RepPs X h vs l → l[i]? = some x → ∃ v, vs[i]? = some v ∧ RepP X h v x := @fun y1_ y2_ y3_ y4_ y5_ y6_ => match y1_, y2_, y3_, y4_, y5_, y6_ with
  | vs, [], i, x, r, e => by simp at e
  | vs, y :: xs, i, x, r, e => by
    simp only [RepPs] at r
    clear y5_ y6_
    obtain ⟨v, q, e', h1, h2⟩ := r
    clear y1_ y2_ y3_ y4_
    subst e'
    cases i with
    | zero => simp at e; subst e; exact ⟨v, rfl, h1⟩
    | succ n => have z := RepPs.get (i := n) h2 (by simpa using e); simpa using z
theorem RepMs.len {X : Cx} {as : List Addr} {h : Heap} : ∀ {vs : List Value} {l : List MV}, RepMs X as h vs l → vs.length = l.length := @fun y1_ y2_ y3_ => match y1_, y2_, y3_ with
  | vs, [], r => by simp only [RepMs] at r; rw [r]; rfl
  | vs, x :: xs, r => by
    simp only [RepMs] at r
    clear y3_
    obtain ⟨v, q, e, _, h2⟩ := r
    rw [e, List.length_cons, List.length_cons, RepMs.len h2]
theorem RepMs.get {X : Cx} {as : List Addr} {h : Heap} : ∀ {vs : List Value} {l : List MV} {i : Nat} {x : MV}, RepMs X as h vs l → l[i]? = some x → ∃ v, vs[i]? = some v ∧ RepM X as h v x := @fun y1_ y2_ y3_ y4_ y5_ y6_ => match y1_, y2_, y3_, y4_, y5_, y6_ with
  | vs, [], i, x, r, e => by simp at e
  | vs, y :: xs, i, x, r, e => by
    simp only [RepMs] at r
    clear y5_ y6_
    obtain ⟨v, q, e', h1, h2⟩ := r
    clear y1_ y2_ y3_ y4_
    subst e'
    cases i with
    | zero => simp at e; subst e; exact ⟨v, rfl, h1⟩
    | succ n => have z := RepMs.get (i := n) h2 (by simpa using e); simpa using z
theorem RepPs.append {X : Cx} {h : Heap} : ∀ {vs ws : List Value} {l k : List PV}, RepPs X h vs l → RepPs X h ws k → RepPs X h (vs ++ ws) (l ++ k) := @fun y1_ y2_ y3_ y4_ y5_ y6_ => match y1_, y2_, y3_, y4_, y5_, y6_ with
  | vs, ws, [], k, r, q => by simp only [RepPs] at r; subst r; exact q
  | vs, ws, x :: xs, k, r, q => by
    simp only [RepPs] at r
    clear y5_ y6_
    obtain ⟨v, u, e, h1, h2⟩ := r
    clear y1_ y2_ y3_ y4_
    subst e
    simp only [List.cons_append, RepPs]
    exact ⟨v, _, rfl, h1, RepPs.append h2 q⟩
theorem RepPs.one {X : Cx} {h : Heap} {v : Value} {x : PV} (r : RepP X h v x) : RepPs X h [v] [x] := by
  simp only [RepPs]; exact ⟨v, [], rfl, r, rfl⟩
theorem RepPs.drop {X : Cx} {h : Heap} : ∀ (n : Nat) {vs : List Value} {l : List PV}, RepPs X h vs l → RepPs X h (vs.drop n) (l.drop n) := fun y1_ y2_ y3_ y4_ => match y1_, y2_, y3_, y4_ with
  | 0, z1_, z2_, r => r
  | n + 1, vs, [], r => by simp only [RepPs] at r; subst r; simp [RepPs]
  | n + 1, vs, x :: xs, r => by
    simp only [RepPs] at r
    clear y1_ y4_
    obtain ⟨v, u, e, h1, h2⟩ := r
    clear h1 y2_ y3_
    subst e
    exact RepPs.drop n h2
theorem RepPs.take {X : Cx} {h : Heap} : ∀ (n : Nat) {vs : List Value} {l : List PV}, RepPs X h vs l → RepPs X h (vs.take n) (l.take n) := fun y1_ y2_ y3_ y4_ => match y1_, y2_, y3_, y4_ with
  | 0, z1_, z2_, r => by simp [RepPs]
  | n + 1, vs, [], r => by simp only [RepPs] at r; subst r; simp [RepPs]
  | n + 1, vs, x :: xs, r => by
    simp only [RepPs] at r
    clear y1_ y4_
    obtain ⟨v, u, e, h1, h2⟩ := r
    clear y2_ y3_
    subst e
    simp only [List.take_succ_cons, RepPs]
    exact ⟨v, _, rfl, h1, RepPs.take n h2⟩
theorem RepPs.rev {X : Cx} {h : Heap} : ∀ {vs : List Value} {l : List PV}, RepPs X h vs l → RepPs X h vs.reverse l.reverse := @fun y1_ y2_ y3_ => match y1_, y2_, y3_ with
  | vs, [], r => by simp only [RepPs] at r; subst r; simp [RepPs]
  | vs, x :: xs, r => by
    simp only [RepPs] at r
    clear y3_
    obtain ⟨v, u, e, h1, h2⟩ := r
    clear y1_ y2_
    subst e
    simp only [List.reverse_cons]
    exact RepPs.append (RepPs.rev h2) (.one h1)
theorem RepPs.set {X : Cx} {h : Heap} {v : Value} {x : PV} (q : RepP X h v x) : ∀ (n : Nat) {vs : List Value} {l : List PV}, RepPs X h vs l → RepPs X h (vs.set n v) (l.set n x) := fun y1_ y2_ y3_ y4_ => match y1_, y2_, y3_, y4_ with
  | n, vs, [], r => by simp only [RepPs] at r; subst r; simp [RepPs]
  | 0, vs, y :: xs, r => by
    simp only [RepPs] at r
    clear y1_ y4_
    obtain ⟨u, w, e, h1, h2⟩ := r
    clear h1 y2_ y3_
    subst e
    simp only [List.set_cons_zero, RepPs]
    exact ⟨v, _, rfl, q, h2⟩
  | n + 1, vs, y :: xs, r => by
    simp only [RepPs] at r
    clear y1_ y4_
    obtain ⟨u, w, e, h1, h2⟩ := r
    clear y2_ y3_
    subst e
    simp only [List.set_cons_succ, RepPs]
    exact ⟨u, _, rfl, h1, RepPs.set q n h2⟩

theorem tupO_is {h : Heap} {a : Addr} {vs : List Value} {n : Nat} (e : h.get? a = some (tupO vs n)) : IsTup h a vs.toArray := ⟨_, e, rfl, n, rfl⟩
theorem lstO_is {h : Heap} {a : Addr} {vs : List Value} {n : Nat} (e : h.get? a = some (lstO vs n)) : h.IsList a vs.toArray := ⟨_, e, rfl, n, rfl⟩

theorem S_nodup : theTexts.Nodup := by decide +kernel
theorem S_ok : theTexts.all PyData.strOk = true := by decide +kernel
theorem S_len : theTexts.length = nStr := rfl
theorem S_at {k : Nat} (h : k < nStr) : S k = theTexts[k]'(by rw [S_len]; exact h) := by
  unfold S
  rw [List.getD_eq_getElem?_getD, List.getElem?_eq_getElem (by rw [S_len]; exact h)]
  rfl
theorem S_inj {a b : Nat} (ha : a < nStr) (hb : b < nStr) : S a = S b ↔ a = b := by
  rw [S_at ha, S_at hb]
  exact List.getElem_inj S_nodup
theorem S_beq {a b : Nat} (ha : a < nStr) (hb : b < nStr) : (S a == S b) = (a == b) := by
  rw [Bool.eq_iff_iff, beq_iff_eq, beq_iff_eq]
  exact S_inj ha hb
theorem S_strOk {a : Nat} (ha : a < nStr) : PyData.strOk (S a) = true := by
  rw [S_at ha]
  exact List.all_eq_true.mp S_ok _ (List.getElem_mem _)

mutual
theorem reads_of {X : Cx} {h : Heap} : ∀ {v : Value} {x : PV}, RepP X h v x → isData x = true → (∃ as, Reads h v (pvD x) as) ∧ (pvD x).canLay0 = true := @fun y1_ y2_ y3_ y4_ => match y1_, y2_, y3_, y4_ with
  | v, .int i, r, z1_ => by simp only [RepP] at r; obtain ⟨t, rfl⟩ := r; exact ⟨⟨_, .int i t⟩, rfl⟩
  | v, .str k, r, z1_ => by simp only [RepP] at r; obtain ⟨hk, t, rfl⟩ := r; exact ⟨⟨_, .str _ t⟩, by simp only [pvD, PyData.canLay0]; exact S_strOk hk⟩
  | v, .tup l, r, d => by
    simp only [RepP] at r
    clear y3_ y4_
    obtain ⟨a, vs, n, rfl, ho, hr⟩ := r
    clear y1_ y2_
    obtain ⟨⟨as, q⟩, hc⟩ := reads_ofs hr (by simpa only [isData] using d)
    exact ⟨⟨as, .tuple ho rfl rfl q⟩, by simpa only [pvD, PyData.canLay0] using hc⟩
  | v, .con _, _, d | v, .any, _, d | v, .scr, _, d | v, .cal _, _, d | v, .fnc _, _, d | v, .cls _, _, d => by simp [isData] at d
theorem reads_ofs {X : Cx} {h : Heap} : ∀ {vs : List Value} {l : List PV}, RepPs X h vs l → areData l = true → (∃ as, ReadsAll h vs (pvDs l) as) ∧ PyData.canLayAll0 (pvDs l) = true := @fun y1_ y2_ y3_ y4_ => match y1_, y2_, y3_, y4_ with
  | vs, [], r, z1_ => by simp only [RepPs] at r; subst r; exact ⟨⟨_, .nil⟩, rfl⟩
  | vs, x :: xs, r, d => by
    simp only [RepPs] at r
    clear y3_ y4_
    obtain ⟨v, q, rfl, h1, h2⟩ := r
    simp only [areData, Bool.and_eq_true] at d
    clear y1_ y2_
    obtain ⟨⟨as, r1⟩, c1⟩ := reads_of h1 d.1
    clear h1 reads_of
    obtain ⟨⟨bs, r2⟩, c2⟩ := reads_ofs h2 d.2
    exact ⟨⟨_, .cons r1 r2⟩, by simp only [pvDs, PyData.canLayAll0, c1, c2, Bool.and_self]⟩
end
end Mine
namespace Mine

theorem repEs_keys {X : Cx} {as : List Addr} {h : Heap} : ∀ {des : List DictEntry} {es : List (Nat × MV)}, RepEs X as h des es → ∀ e ∈ des, ∃ k t, e.key = .str (S k) t ∧ e.hash = PyData.keyHash X.w.params (S k) := @fun y1_ y2_ y3_ y4_ y5_ => match y1_, y2_, y3_, y4_, y5_ with
  | [], [], z1_, e, m => nomatch m
  | e' :: r, (q, x) :: r', ⟨⟨z1_, ⟨t, h2⟩, h3, z2_⟩, h5⟩, e, m => by
    clear y3_ y5_ z1_ z2_
    have q_ := List.mem_cons.mp m
    clear x y1_ y2_ y4_
    rcases q_ with rfl | m
    · exact ⟨q, t, h2, h3⟩
    · exact repEs_keys h5 e m
theorem repEs_find {X : Cx} {as : List Addr} {h : Heap} {k : Nat} (hk : k < nStr) : ∀ {des : List DictEntry} {es : List (Nat × MV)}, RepEs X as h des es →
    (match es.lookup k with | some mv => ∃ v, (des.find? fun e => Value.isStrOf (S k) e.key).map (·.val) = some v ∧ RepM X as h v mv | none => (des.find? fun e => Value.isStrOf (S k) e.key).map (·.val) = none)
  | [], [], z1_ => rfl
  | e' :: r, (q, x) :: r', ⟨⟨hq, ⟨t, h2⟩, h3, h4⟩, h5⟩ => by
    have ih := repEs_find hk h5
    simp only [List.lookup_cons, List.find?_cons, h2, Value.isStrOf, S_beq hq hk]
    by_cases e : k = q
    · clear h2 h3 h5 hk hq ih t
      subst e
      simp only [beq_self_eq_true, Option.map_some]
      exact ⟨_, rfl, h4⟩
    · have e1 : (k == q) = false := beq_eq_false_iff_ne.mpr e
      have e2 : (q == k) = false := beq_eq_false_iff_ne.mpr (Ne.symm e)
      simp only [e1, e2]
      exact ih
theorem repEs_map {X : Cx} {as : List Addr} {h : Heap} {des : List DictEntry} {es : List (Nat × MV)} {d : Addr} {n : Nat} (ho : h.get? d = some (dictOf des n)) (r : RepEs X as h des es) :
    h.MapOf (PySem.strKind X.prog X.w) d (fun x => (des.find? fun e => Value.isStrOf x e.key).map (·.val)) := by
  refine ⟨_, des.toArray, n, ho, ⟨rfl, rfl, rfl⟩, rfl, ?_, fun k => ?_⟩
  · intro e he
    clear ho n
    obtain ⟨k, t, h1, h2⟩ := repEs_keys r e (by simpa using he)
    exact ⟨S k, by rw [h1]; exact PySem.strKind_is X.prog X.w _ _, h2⟩
  · simp only [findBy, List.find?_toArray, PySem.strKind]

section
variable {X : Cx} {r : Nat} {env : Env} {names : Names} {Xc : Prop} {A : Around} {as : List Addr} {s : Shared} {c : AS}

noncomputable def copOf : COp → CmpOp := fun y1_ => match y1_ with
  | .eq => .Eq | .ne => .NotEq | .lt => .Lt | .le => .LtE | .gt => .Gt | .ge => .GtE | .isin => .In | .notin => .NotIn
abbrev RC : List Addr → Heap → Value → Bool → Prop := fun z_ z_ a b => a = .bool b
abbrev P2 (X : Cx) (v w : Value) (a b : MV) : List Addr → Heap → Prop := fun as h => RepM X as h v a ∧ RepM X as h w b

theorem Cx.Good.mods {X : Cx} (G : X.Good) {d : Addr} (h : X.g1.objs.size ≤ d) : (d == sysModules) = false :=
  beq_eq_false_iff_ne.mpr (Nat.ne_of_gt (Nat.lt_of_lt_of_le (modules_low G.nolimit) h))
inductive LstAt (X : Cx) (as : List Addr) (h : Heap) (j : Nat) (l : List PV) (v : Value) : Prop
  | mk (a : Addr) (vs : List Value) (n : Nat) (h0 : v = .ref a) (h1 : as[j]? = some a) (h2 : X.g1.objs.size ≤ a) (h3 : h.get? a = some (lstO vs n)) (h4 : RepPs X h vs l)
theorem St.lst (st : St X env names c as s.heap) {j : Nat} {l : List PV} {v : Value} (e : c.σ[j]? = some (.lst l)) (r : RepM X as s.heap v (.loc j)) :
    LstAt X as s.heap j l v := by
  simp only [RepM] at r
  obtain ⟨a, ha, rfl⟩ := r
  obtain ⟨o, ob, h1, h2, h3, h4⟩ := st.store.at ha
  rw [e] at h1
  clear e st
  cases h1
  obtain ⟨vs, n, rfl, hr⟩ := h4
  exact ⟨a, vs, n, rfl, ha, h2, h3, hr⟩
inductive DctAt (X : Cx) (as : List Addr) (h : Heap) (j : Nat) (l : List (Nat × MV)) (v : Value) : Prop
  | mk (a : Addr) (vs : List DictEntry) (n : Nat) (h0 : v = .ref a) (h1 : as[j]? = some a) (h2 : X.g1.objs.size ≤ a) (h3 : h.get? a = some (dictOf vs n)) (h4 : RepEs X as h vs l)
theorem St.dct (st : St X env names c as s.heap) {j : Nat} {l : List (Nat × MV)} {v : Value} (e : c.σ[j]? = some (.dct l)) (r : RepM X as s.heap v (.loc j)) :
    DctAt X as s.heap j l v := by
  simp only [RepM] at r
  obtain ⟨a, ha, rfl⟩ := r
  obtain ⟨o, ob, h1, h2, h3, h4⟩ := st.store.at ha
  rw [e] at h1
  clear e st
  cases h1
  obtain ⟨vs, n, rfl, hr⟩ := h4
  exact ⟨a, vs, n, rfl, ha, h2, h3, hr⟩

theorem strIn_of {h : Heap} {k : Nat} (hk : k < nStr) : ∀ {vs : List Value} {l : List PV} {b : Bool}, RepPs X h vs l → strIn k l = some b → vs.any (Value.isStrOf (S k)) = b ∧ ∀ y ∈ vs, ∃ i t, y = .str (S i) t := @fun y1_ y2_ y3_ y4_ y5_ => match y1_, y2_, y3_, y4_, y5_ with
  | vs, [], b, r, e => by
    simp only [RepPs] at r
    clear hk y4_ y5_
    subst r
    simp only [strIn, Option.some.injEq] at e
    exact ⟨e, fun y m => nomatch m⟩
  | vs, x :: xs, b, r, e => by
    simp only [RepPs] at r
    clear y4_ y5_
    obtain ⟨v, q, rfl, h1, h2⟩ := r
    clear y1_ y2_ y3_
    cases x with
    | str i =>
      simp only [strIn, Option.map_eq_some_iff] at e
      obtain ⟨b', e', rfl⟩ := e
      obtain ⟨z1, z2⟩ := strIn_of hk h2 e'
      simp only [RepP] at h1
      clear e' h2 xs
      obtain ⟨hi, t, rfl⟩ := h1
      refine ⟨by simp only [List.any_cons, Value.isStrOf, S_beq hi hk, z1], fun y m => ?_⟩
      clear h hi hk z1
      have q_ := List.mem_cons.mp m
      clear b' k
      rcases q_ with rfl | m
      · exact ⟨i, t, rfl⟩
      · exact z2 y m
    | _ => simp only [strIn] at e; cases e
theorem both_inv {α β γ : Type} {f : α → β → Option γ} {a : Option α} {b : Option β} {t : γ} (h : both f a b = some t) : ∃ x y, a = some x ∧ b = some y ∧ f x y = some t := by
  cases a with
  | none => cases h
  | some x =>
    cases b with
    | none => cases h
    | some y => exact ⟨x, y, rfl, rfl, h⟩
theorem orO_inv {α : Type} {a b : Option α} {t : α} (h : orO a b = some t) : a = some t ∨ b = some t := by
  cases a with
  | none => exact .inr h
  | some x => exact .inl h
theorem thenO_inv {α β : Type} {f : α → Option β} {o : Option α} {b : β} (h : thenO f o = some b) : ∃ a, o = some a ∧ f a = some b := by
  cases o with
  | none => cases h
  | some a => exact ⟨a, rfl, h⟩
theorem asStr_inv {v : MV} {k : Nat} (h : asStr v = some k) : v = .p (.str k) := by
  cases v with
  | p x => cases x <;> cases h <;> rfl
  | _ => cases h
theorem asInt_inv {v : MV} {k : Int} (h : asInt v = some k) : v = .p (.int k) := by
  cases v with
  | p x => cases x <;> cases h <;> rfl
  | _ => cases h
theorem asTup_inv {v : MV} {k : List PV} (h : asTup v = some k) : v = .p (.tup k) := by
  cases v with
  | p x => cases x <;> cases h <;> rfl
  | _ => cases h
theorem isLst_inv {o : MO} {l : List PV} (h : isLst o = some l) : o = .lst l := by cases o <;> cases h <;> rfl
theorem isDct_inv {o : MO} {l : List (Nat × MV)} (h : isDct o = some l) : o = .dct l := by cases o <;> cases h <;> rfl
theorem objOf_inv {σ : List MO} {v : MV} {o : MO} (h : objOf σ v = some o) : ∃ i, v = .loc i ∧ σ[i]? = some o := by
  cases v with
  | loc i => exact ⟨i, rfl, h⟩
  | _ => cases h
theorem lstAt_inv {σ : List MO} {v : MV} {l : List PV} (h : lstAt σ v = some l) : ∃ i, v = .loc i ∧ σ[i]? = some (.lst l) := by
  obtain ⟨o, ho, hl⟩ := thenO_inv h
  rw [isLst_inv hl] at ho
  exact objOf_inv ho
theorem dctAt_inv {σ : List MO} {v : MV} {l : List (Nat × MV)} (h : dctAt σ v = some l) : ∃ i, v = .loc i ∧ σ[i]? = some (.dct l) := by
  obtain ⟨o, ho, hl⟩ := thenO_inv h
  rw [isDct_inv hl] at ho
  exact objOf_inv ho
theorem cmpS_inv {f : Nat → Nat → Bool} {v w : MV} {t : Bool} (h : cmpS f v w = some t) : ∃ a b, v = .p (.str a) ∧ w = .p (.str b) ∧ f a b = t := by
  obtain ⟨a, b, ha, hb, e⟩ := both_inv h
  exact ⟨a, b, asStr_inv ha, asStr_inv hb, Option.some.inj e⟩
inductive CmpI (f : Int → Int → Bool) (v w : Value) (t : Bool) : Prop
  | mk (i j : Int) (t1 t2 : Tok) (h0 : v = .int i t1) (h1 : w = .int j t2) (h2 : f i j = t)
inductive CmpL (h : Heap) (bb : Bool) (v w : Value) (t : Bool) : Prop
  | mk (a1 a2 : Addr) (vs : List Value) (n1 n2 : Nat) (h0 : v = .ref a1) (h1 : w = .ref a2) (h2 : h.get? a1 = some (lstO vs n1)) (h3 : h.get? a2 = some (lstO [] n2)) (h4 : t = (vs.isEmpty == bb))
theorem cmpI_rep {h : Heap} {as : List Addr} {f : Int → Int → Bool} {a b : MV} {v w : Value} {t : Bool} (e : cmpI f a b = some t) (rv : RepM X as h v a) (rw' : RepM X as h w b) : CmpI f v w t := by
  obtain ⟨i, j, hi, hj, e⟩ := both_inv e
  rw [asInt_inv hi] at rv
  rw [asInt_inv hj] at rw'
  simp only [RepM, RepP] at rv rw'
  clear as h hi hj
  obtain ⟨t1, rfl⟩ := rv
  obtain ⟨t2, rfl⟩ := rw'
  exact ⟨i, j, t1, t2, rfl, rfl, Option.some.inj e⟩
theorem cmpL_st {as : List Addr} {s : Shared} {bb : Bool} {a b : MV} {v w : Value} {t : Bool} (st : St X env names c as s.heap) (e : cmpL c.σ bb a b = some t) (rv : RepM X as s.heap v a) (rw' : RepM X as s.heap w b) :
    CmpL s.heap bb v w t := by
  obtain ⟨l, m, hl, hm, e2⟩ := both_inv e
  clear e
  obtain ⟨i, rfl, hi⟩ := lstAt_inv hl
  have q_ := lstAt_inv hm
  clear hm
  obtain ⟨j, rfl, hj⟩ := q_
  cases m with
  | cons => cases e2
  | nil =>
    have q_ := st.lst hi rv
    clear hi rv
    obtain ⟨a1, vs, n1, rfl, _, _, o1, r1⟩ := q_
    have q_ := st.lst hj rw'
    clear hj rw' st
    obtain ⟨a2, ws, n2, rfl, _, _, o2, r2⟩ := q_
    simp only [RepPs] at r2
    subst r2
    refine ⟨a1, a2, vs, n1, n2, rfl, rfl, o1, o2, ?_⟩
    have hl := r1.len
    have e2 : some (l.isEmpty == bb) = some t := e2
    rw [← Option.some.inj e2]
    cases l <;> cases vs <;> first | rfl | cases hl
theorem pm_cmp (G : X.Good) {op : COp} {v w : Value} {a b : MV} {t : Bool} {Q : Bool → AS → Prop} (hv : vCmp c.σ op a b = some t) (hq : Q t c) :
    SemP X r env names Xc (P2 X v w a b) RC (compareOp (copOf op) v w) c Q := by
  intro A as s K E ac st ⟨rv, rw'⟩ hk hx
  have fin : K (.bool t) s := hk _ _ _ _ _ (.refl ac st) rfl hq
  have fin' : ∀ tk, K (.bool t) { s with toks := tk } := fun tk => hk _ _ c as _ (.tok ac st tk) rfl hq
  have hu : A.units + 64 < cLine := by exact Nat.lt_of_le_of_lt (Nat.le_trans (Nat.add_le_add_left (by decide) _) (Nat.add_le_add_right (Nat.le_add_right _ _) _)) ac.units
  have hu0 : A.units < cLine := Nat.lt_of_le_of_lt (Nat.le_add_right _ _) hu
  clear hk hx hq
  clear Q ac
  cases op with
  | eq =>
    clear G fin' hu
    have q_ := orO_inv hv
    clear hv
    rcases q_ with h | h
    · clear hu0 st
      have q_ := cmpS_inv h
      clear h
      obtain ⟨i, j, rfl, rfl, rfl⟩ := q_
      simp only [RepM, RepP] at rv rw'
      clear as
      obtain ⟨h1, t1, rfl⟩ := rv
      obtain ⟨h2, t2, rfl⟩ := rw'
      exact eq_str (by rw [S_beq h1 h2]; exact fin)
    · rcases orO_inv h with h | h
      · clear hu0 st
        have q_ := cmpI_rep h rv rw'
        clear h rv rw'
        obtain ⟨i, j, t1, t2, rfl, rfl, rfl⟩ := q_
        exact P.eq_int fin
      · have q_ := cmpL_st st h rv rw'
        clear rv rw' st
        obtain ⟨a1, a2, vs, n1, n2, rfl, rfl, o1, o2, rfl⟩ := q_
        clear as
        cases vs with
        | nil => exact SeqAt.eq_listAt (e := fun z_ => true) (lstO_is o1) (lstO_is o2) rfl hu0 (fun j h z_ => by simp at h) (by simpa using fin)
        | cons x xs => exact SeqAt.eq_list_lengthsAt (lstO_is o1) (lstO_is o2) (by simp) hu0 (by simpa using fin)
  | ne =>
    clear G fin'
    have q_ := orO_inv hv
    clear hv
    rcases q_ with h | h
    · clear hu hu0 st
      have q_ := cmpS_inv h
      clear h
      obtain ⟨i, j, rfl, rfl, rfl⟩ := q_
      simp only [RepM, RepP] at rv rw'
      clear as
      obtain ⟨h1, t1, rfl⟩ := rv
      obtain ⟨h2, t2, rfl⟩ := rw'
      exact ne_str (by simp only [bne, S_beq h1 h2]; exact fin)
    · rcases orO_inv h with h | h
      · clear hu hu0 st
        have q_ := cmpI_rep h rv rw'
        clear h rv rw'
        obtain ⟨i, j, t1, t2, rfl, rfl, rfl⟩ := q_
        exact P.ne_int fin
      · rcases orO_inv h with h | h
        · clear hu0 st
          obtain ⟨x, y, hx, hy, h⟩ := both_inv h
          rw [asTup_inv hx] at rv
          rw [asTup_inv hy] at rw'
          clear hx hy
          cases hf : flat x y with
          | false =>
            rw [hf] at h
            clear fin hf hu rv rw'
            cases h
          | true =>
            rw [hf] at h
            have h : (!PyData.eqvAll (pvDs x) (pvDs y)) = t := Option.some.inj h
            subst h
            simp only [RepM] at rv rw'
            simp only [flat, Bool.and_eq_true, decide_eq_true_eq] at hf
            clear as h
            obtain ⟨⟨as1, r1⟩, c1⟩ := reads_of rv hf.1.1.1
            clear h rv
            obtain ⟨⟨as2, r2⟩, c2⟩ := reads_of rw' hf.1.1.2
            refine ne_dataH r1 r2 (by simp only [SeqAt.shaped, c1, Bool.true_and, decide_eq_true_eq]; exact Nat.le_trans hf.1.2 (by decide)) (by simp only [SeqAt.shaped, c2, Bool.true_and, decide_eq_true_eq]; exact Nat.le_trans hf.2 (by decide)) hu ?_
            exact fin
        · clear hu
          have q_ := cmpL_st st h rv rw'
          clear rv rw' st
          obtain ⟨a1, a2, vs, n1, n2, rfl, rfl, o1, o2, rfl⟩ := q_
          show wpAny (model X.prog X.w) A (richCompare .NotEq (.ref a1) (.ref a2)) K E s
          clear as
          cases vs with
          | nil => exact SeqAt.RcNeAt.lists (e := fun z_ => true) (lstO_is o1) (lstO_is o2) rfl hu0 (fun j h z_ => by simp at h) _ _ _ _ (by simpa using fin)
          | cons x xs => exact SeqAt.RcNeAt.lists_lengths (lstO_is o1) (lstO_is o2) (by simp) hu0 _ _ _ _ (by simpa using fin)
  | lt =>
    clear G fin' hu hu0 st
    have q_ := cmpI_rep hv rv rw'
    clear hv rv rw'
    obtain ⟨i, j, t1, t2, rfl, rfl, rfl⟩ := q_
    exact P.lt_int fin
  | le =>
    clear G fin' hu hu0 st
    have q_ := cmpI_rep hv rv rw'
    clear hv rv rw'
    obtain ⟨i, j, t1, t2, rfl, rfl, rfl⟩ := q_
    exact P.le_int fin
  | gt =>
    clear G fin' hu hu0 st
    have q_ := cmpI_rep hv rv rw'
    clear hv rv rw'
    obtain ⟨i, j, t1, t2, rfl, rfl, rfl⟩ := q_
    exact P.gt_int fin
  | ge =>
    clear G fin' hu hu0 st
    have q_ := cmpI_rep hv rv rw'
    clear hv rv rw'
    obtain ⟨i, j, t1, t2, rfl, rfl, rfl⟩ := q_
    exact P.ge_int fin
  | isin =>
    clear G fin' hu hu0 st
    obtain ⟨k, l, hk, hl, h⟩ := both_inv hv
    rw [asStr_inv hk] at rv
    rw [asTup_inv hl] at rw'
    simp only [RepM, RepP] at rv rw'
    clear as hk hl hv
    obtain ⟨hk', t1, rfl⟩ := rv
    clear a b
    obtain ⟨d, vs, n, rfl, ho, hr⟩ := rw'
    obtain ⟨z1, z2⟩ := strIn_of hk' hr h
    refine SeqAt.in_tupleAt (Value.isStrOf (S k)) (tupO_is ho) (fun y hy => ?_) (by simpa [z1] using fin)
    clear E fin h hk' ho hr l n z1
    have q_ := z2 y (by simpa using hy)
    clear K d hy t z2
    obtain ⟨i, u, rfl⟩ := q_
    exact SeqAt.EqAt.str_str _ _ _ _
  | notin =>
    clear fin hu hu0
    obtain ⟨k, es, hk, hes, h⟩ := both_inv hv
    clear hv
    have q_ := dctAt_inv hes
    clear hes
    obtain ⟨j, rfl, hes'⟩ := q_
    rw [asStr_inv hk] at rv
    simp only [RepM, RepP] at rv
    clear hk
    obtain ⟨hk', t1, rfl⟩ := rv
    clear a
    have q_ := st.dct hes' rw'
    clear hes' rw' st
    obtain ⟨d, vs, n, rfl, hj, hd, ho, hr⟩ := q_
    have h : (!(List.lookup k es).isSome) = t := Option.some.inj h
    clear hj j
    subst h
    have hf := repEs_find hk' hr
    refine PySem.wpAny_notIn_of (PySem.strKind_is X.prog X.w _ _) (G.mods hd) (repEs_map ho hr) ?_
    clear A E G h hd hk' ho hr n t1
    cases q : List.lookup k es with
    | some mv => rw [q] at hf; obtain ⟨u, e, _⟩ := hf; simp only [e, Option.isSome_some]; simpa [q] using fin' _
    | none => rw [q] at hf; simp only [hf, Option.isSome_none]; simpa [q] using fin' _
end
end Mine
namespace Mine
section
variable {X : Cx} {r : Nat} {env : Env} {names : Names} {Xc : Prop} {A : Around} {as : List Addr} {s : Shared} {c : AS}

theorem S_short : theTexts.all (fun x => decide (x.length ≤ 1000)) = true := by decide +kernel
theorem S_size {k : Nat} (h : k < nStr) : (S k).length ≤ 1000 := by
  rw [S_at h]
  exact of_decide_eq_true (List.all_eq_true.mp S_short _ (List.getElem_mem _))
theorem intBits_small {a : Int} (h : a.natAbs < 4611686018427387904) : Builtin.Int.intBits a ≤ 64 := by
  unfold Builtin.Int.intBits
  split
  · exact Nat.zero_le _
  · rename_i h0
    have h1 : a.natAbs ≠ 0 := by simpa using h0
    have : a.natAbs.log2 < 62 := (Nat.log2_lt h1).mpr h
    exact Nat.le_trans this (by decide)
noncomputable def bopOf : BOp → Operator := fun y1_ => match y1_ with
  | .add => .Add | .sub => .Sub | .mul => .Mult | .fdiv => .FloorDiv | .mod => .Mod | .pow => .Pow

/-- a tuple, made anew -/
theorem At.tup (ac : ACond X A r as s.heap) (st : St X env names c as s.heap) {vs : List Value} {l : List PV} (hr : RepPs X s.heap vs l) {tk : Nat} :
    At X r env names A as s c as { s with heap := s.heap.push (tupO vs 0), toks := tk } ∧ RepM X as (s.heap.push (tupO vs 0)) (.ref s.heap.objs.size) (.p (.tup l)) := by
  refine ⟨.grow ac st fun b o e => Heap.get?_push_of_some _ e, ?_⟩
  simp only [RepM, RepP]
  exact ⟨_, vs, 0, rfl, Heap.get?_push_size _ rfl, hr.keep (tkeep_all fun b o e => Heap.get?_push_of_some _ e)⟩
theorem At.lst (ac : ACond X A r as s.heap) (st : St X env names c as s.heap) {vs : List Value} {l : List PV} (hr : RepPs X s.heap vs l) {tk : Nat} :
    At X r env names A as s ⟨c.ρ, c.σ ++ [.lst l]⟩ (as ++ [s.heap.objs.size]) { s with heap := s.heap.push (lstO vs 0), toks := tk } ∧
      RepM X (as ++ [s.heap.objs.size]) (s.heap.push (lstO vs 0)) (.ref s.heap.objs.size) (.loc c.σ.length) := by
  refine ⟨.new ac st rfl ⟨vs, 0, rfl, hr.keep (tkeep_all fun b o e => Heap.get?_push_of_some _ e)⟩, ?_⟩
  simp only [RepM]
  exact ⟨_, by rw [← st.store.1, List.getElem?_concat_length], rfl⟩

inductive BinI (f : Int → Int → Option Int) (v w : Value) (m : MV) (σ σ' : List MO) : Prop
  | mk (i j : Int) (t1 t2 : Tok) (k : Int) (h0 : v = .int i t1) (h1 : w = .int j t2) (h2 : f i j = some k) (h3 : m = mI k) (h4 : σ' = σ)
theorem binI_rep {h : Heap} {as : List Addr} {σ σ' : List MO} {f : Int → Int → Option Int} {a b m : MV} {v w : Value} (e : binI σ f a b = some (m, σ')) (rv : RepM X as h v a) (rw' : RepM X as h w b) :
    BinI f v w m σ σ' := by
  obtain ⟨k, e1, e2⟩ := thenO_inv e
  clear e
  obtain ⟨i, j, hi, hj, e3⟩ := both_inv e1
  rw [asInt_inv hi] at rv
  rw [asInt_inv hj] at rw'
  simp only [RepM, RepP] at rv rw'
  clear as e1 h hi hj
  obtain ⟨t1, rfl⟩ := rv
  clear a b
  obtain ⟨t2, rfl⟩ := rw'
  cases e2
  exact ⟨i, j, t1, t2, k, rfl, rfl, e3, rfl, rfl⟩
theorem if_some {α : Type} {c : Prop} [Decidable c] {a b : α} (h : (if c then some a else none) = some b) : c ∧ a = b := by
  by_cases hc : c
  · rw [if_pos hc] at h
    exact ⟨hc, Option.some.inj h⟩
  · rw [if_neg hc] at h
    clear hc
    cases h
theorem natAbs_small {j : Int} (h : 0 < j ∧ j < 1000000) : j.natAbs < 1073741824 := by
  obtain ⟨n, rfl⟩ := Int.eq_ofNat_of_zero_le (Int.le_of_lt h.1)
  exact Nat.lt_trans (Int.ofNat_lt.mp h.2) (by decide)
theorem pm_bin (G : X.Good) {op : BOp} {v w : Value} {a b m : MV} {σ' : List MO} {Q : MV → AS → Prop} (hv : vBin c.σ op a b = some (m, σ')) (hq : Q m ⟨c.ρ, σ'⟩) :
    SemP X r env names Xc (P2 X v w a b) (RV X) (binaryOp (bopOf op) v w) c Q := by
  intro A as s K E ac st ⟨rv, rw'⟩ hk hx
  have fin : ∀ i tk tk', m = mI i → σ' = c.σ → K (.int i tk) { s with toks := tk' } := fun i tk tk' e1 e2 => by
    clear G hv hx op rv rw' v w
    subst e1
    clear E a b
    subst e2
    exact hk _ _ c as _ (.tok ac st tk') (by simp only [RepM, RepP]; exact ⟨_, rfl⟩) hq
  clear G
  cases op with
  | add =>
    have q_ := orO_inv hv
    clear hv
    rcases q_ with h | h
    · clear ac hk hq hx st
      have q_ := binI_rep h rv rw'
      clear Q h rv rw'
      obtain ⟨i, j, t1, t2, k, rfl, rfl, e, hm, hs⟩ := q_
      clear a as b
      cases e
      exact P.add_int (fin _ _ _ hm hs)
    · clear fin
      rcases orO_inv h with h | h
      · obtain ⟨x, y, hx, hy, h⟩ := both_inv h
        rw [asTup_inv hx] at rv
        rw [asTup_inv hy] at rw'
        clear hx hy
        obtain ⟨hs, h⟩ := if_some h
        clear hx
        cases h
        simp only [Bool.and_eq_true, decide_eq_true_eq, Bool.not_eq_true', List.isEmpty_eq_false_iff] at hs
        simp only [RepM, RepP] at rv rw'
        clear h
        obtain ⟨a1, vs, n1, rfl, o1, r1⟩ := rv
        clear h
        obtain ⟨a2, ws, n2, rfl, o2, r2⟩ := rw'
        have l1 := r1.len
        have l2 := r2.len
        refine P.add_tuple o1 o2 (by simp; intro e; subst e; simp at l1; exact hs.1.1 (by simpa using l1.symm)) (by simp; intro e; subst e; simp at l2; exact hs.1.2 (by simpa using l2.symm)) ?_ (by simp only [List.size_toArray, l1, l2]; exact Nat.le_trans hs.2 (by decide))
        have := At.tup (tk := s.toks) ac st (RepPs.append r1 r2)
        simp only [List.append_toArray]
        exact hk _ _ c as _ this.1 this.2 hq
      · rcases orO_inv h with h | h
        · obtain ⟨x, y, hx, hy, h⟩ := both_inv h
          rw [asStr_inv hx] at rv
          rw [asStr_inv hy] at rw'
          simp only [RepM, RepP] at rv rw'
          clear hx hy
          obtain ⟨h1, t1, rfl⟩ := rv
          clear hx
          obtain ⟨h2, t2, rfl⟩ := rw'
          cases h
          refine add_str (fun t' tk => ?_) (by have := S_size h1; have := S_size h2; exact Nat.le_trans (Nat.add_le_add ‹_› ‹_›) (by decide))
          exact hk _ _ c as _ (.tok ac st tk) (by simp only [RepM, RepP]; exact ⟨_, _, rfl⟩) hq
        · obtain ⟨x, y, hx, hy, hh⟩ := both_inv h
          clear h
          obtain ⟨hs, hh⟩ := if_some hh
          clear h
          cases hh
          clear h hh
          have q_ := lstAt_inv hx
          clear hx
          obtain ⟨i, rfl, h1⟩ := q_
          clear hx
          have q_ := lstAt_inv hy
          clear hy
          obtain ⟨j, rfl, h2⟩ := q_
          have q_ := st.lst h1 rv
          clear h1 rv
          obtain ⟨a1, vs, n1, rfl, e1, _, o1, r1⟩ := q_
          clear e1 i
          have q_ := st.lst h2 rw'
          clear h2 rw'
          obtain ⟨a2, ws, n2, rfl, e2, _, o2, r2⟩ := q_
          refine P.add_list o1 o2 ?_ (by simp only [List.size_toArray, r1.len, r2.len]; exact Nat.le_trans hs (by decide))
          have := At.lst (tk := s.toks) ac st (RepPs.append r1 r2)
          simp only [List.append_toArray]
          exact hk _ _ _ _ _ this.1 this.2 hq
  | sub =>
    clear ac hk hq hx st
    have q_ := binI_rep hv rv rw'
    clear Q hv rv rw'
    obtain ⟨i, j, t1, t2, k, rfl, rfl, e, hm, hs⟩ := q_
    clear a as b
    cases e
    exact P.sub_int (fin _ _ _ hm hs)
  | mul =>
    clear ac hk hq hx st
    have q_ := binI_rep hv rv rw'
    clear Q hv rv rw'
    obtain ⟨i, j, t1, t2, k, rfl, rfl, e, hm, hs⟩ := q_
    clear a as b
    have q_ := if_some e
    clear e
    obtain ⟨hb, rfl⟩ := q_
    simp only [Bool.and_eq_true, small, decide_eq_true_eq] at hb
    exact P.mul_int (fin _ _ _ hm hs) (.of_left (intBits_small hb.1))
  | fdiv =>
    clear ac hk hq hx st
    have q_ := binI_rep hv rv rw'
    clear Q hv rv rw'
    obtain ⟨i, j, t1, t2, k, rfl, rfl, e, hm, hs⟩ := q_
    clear a as b
    have q_ := if_some e
    clear e
    obtain ⟨hb, rfl⟩ := q_
    exact PyProof.Rows.floordiv_int (Int.ne_of_gt hb.1) (fin _ _ _ hm hs) (.inl (PyProof.noPylong_small (natAbs_small hb)))
  | mod =>
    clear ac hk hq hx st
    have q_ := binI_rep hv rv rw'
    clear Q hv rv rw'
    obtain ⟨i, j, t1, t2, k, rfl, rfl, e, hm, hs⟩ := q_
    clear a as b
    have q_ := if_some e
    clear e
    obtain ⟨hb, rfl⟩ := q_
    exact PyProof.Rows.mod_int (Int.ne_of_gt hb) (fin _ _ _ hm hs)
  | pow =>
    clear ac hk hq hx st
    have q_ := binI_rep hv rv rw'
    clear Q hv rv rw'
    obtain ⟨i, j, t1, t2, k, rfl, rfl, e, hm, hs⟩ := q_
    clear a as b
    have q_ := if_some e
    clear e
    obtain ⟨⟨rfl, rfl⟩, rfl⟩ := q_
    refine PySem.AutoIntOps.pow_4 (by decide) (by decide) (by decide) (by decide) (by decide +kernel) ?_
    exact fin _ _ _ (by rw [show (10 : Int) ^ Int.toNat 15 = 1000000000000000 by decide +kernel]; exact hm) hs
end
end Mine
namespace Mine

theorem adjust_rev (n : Nat) : Builtin.Slice.sliceAdjust none none (-1) (n : Int) = ((n : Int) - 1, -1) := rfl
theorem places_rev (n : Nat) : Builtin.Slice.slicePlaces ((n : Int) - 1) (-1) (-1) = n := by
  unfold Builtin.Slice.slicePlaces
  cases n with
  | zero => rfl
  | succ n =>
    have e : (((n + 1 : Nat) : Int) - 1) = n := Int.add_sub_cancel (n : Int) 1
    rw [e, if_neg (by decide), if_pos (Int.lt_of_lt_of_le (by decide) (Int.natCast_nonneg n))]
    show ((((n : Int) + 1 - 1) / 1) + 1).toNat = n + 1
    rw [Int.add_sub_cancel, Int.ediv_one]
    rfl
theorem rev_at (n k : Nat) : (((n : Int) - 1) + (k : Int) * -1).toNat = n - 1 - k := by
  rw [Int.mul_neg, Int.mul_one, ← Int.sub_eq_add_neg, Int.sub_sub]
  show ((n : Int) - ((1 + k : Nat) : Int)).toNat = _
  rw [Int.toNat_sub, Nat.sub_add_eq]
theorem pick_rev (xs : Array Value) : ((List.range xs.size).filterMap fun (k : Nat) => xs[(((xs.size : Int) - 1) + (k : Int) * -1).toNat]?).toArray = xs.toList.reverse.toArray := by
  have e : (List.range xs.size).filterMap (fun (k : Nat) => xs[(((xs.size : Int) - 1) + (k : Int) * -1).toNat]?) = ((List.range xs.size).map fun k => xs.size - 1 - k).filterMap (xs[·]?) := by
    rw [List.filterMap_map]
    congr 1
    funext k
    have e2 : (((xs.size : Int) - 1) + (k : Int) * -1).toNat = xs.size - 1 - k := rev_at xs.size k
    rw [e2]
    rfl
  rw [e, krv_range, List.filterMap_reverse, krv_all]
section
variable {prog : Program} {w : World} {A : Around} {E : Value → Shared → Prop} {s : Shared}
theorem sliceApplied_rev {sl : Addr} {n : Nat} {u : Tok} {Q : Int × Int × Nat → Shared → Prop} (hs : s.heap.IsSliceOf sl .none .none (.int (-1) u)) (h : Q ((n : Int) - 1, -1, n) s) :
    wpAny (model prog w) A (Builtin.Slice.sliceApplied (.ref sl) (pure (n : Int))) Q E s := by
  obtain ⟨os, hos, hcs, hds⟩ := id hs
  unfold Builtin.Slice.sliceApplied Builtin.Slice.sliceFields
  refine wpAny_bind (wpAny_bind (wpAny_field hos hds (x := .none) rfl (wpAny_bind (wpAny_field hos hds (x := .none) rfl (wpAny_bind (wpAny_field hos hds (x := .int (-1) u) rfl (wpAny_pure ?_)))))))
  refine wpAny_bind (slicePart_int ?_)
  show wpAny _ _ (if ((-1 : Int) == 0) = true then _ else _) _ _ s
  rw [if_neg (by decide)]
  refine wpAny_bind (slicePart_none (wpAny_bind (slicePart_none (wpAny_bind (wpAny_pure ?_)))))
  show wpAny _ _ (match Builtin.Slice.sliceAdjust none none (-1) (n : Int) with | (lo, hi) => pure (lo, (-1 : Int), Builtin.Slice.slicePlaces lo hi (-1))) _ _ s
  rw [adjust_rev n]
  show wpAny _ _ (pure ((n : Int) - 1, (-1 : Int), Builtin.Slice.slicePlaces ((n : Int) - 1) (-1) (-1))) _ _ s
  rw [places_rev n]
  exact wpAny_pure h
theorem getItem_tuple_rev {t sl : Addr} {items : Array Value} {u : Tok} {Q : Value → Shared → Prop} (ht : IsTup s.heap t items) (hs : s.heap.IsSliceOf sl .none .none (.int (-1) u))
    (h : Q (.ref s.heap.objs.size) { s with heap := s.heap.push { cls := .type "tuple", data := .seq items.toList.reverse.toArray } })
    (hsz : items.size ≤ sizeLine) : wpAny (model prog w) A (getItem (.ref t) (.ref sl)) Q E s := by
  have hrev : sizeOk (.seq items.toList.reverse.toArray) := by
    show items.toList.reverse.toArray.size ≤ sizeLine
    simpa using hsz
  clear hsz
  obtain ⟨os, hos, hcs, hds⟩ := id hs
  have hTs : s.TypeIs (.ref sl) "slice" := ⟨os, hos, hcs⟩
  unfold getItem
  try with_reducible refine wpAny_holding ?_
  first | refine wpAny_bind (wpAny_pure ?_) | skip
  refine wpAny_bind (wpAny_sequenceKey ht.typeIs (by decide) ?_)
  refine wpAny_bind (wpAny_callSpecial?_slot (name := Str.ofString "__getitem__") ht.typeIs slot_tuple_getitem
    (wpAny_call_entry slot_tuple_getitem ht.typeIs entry_tuple_getitem ?_ (args_tuple_getitem _ _)))
  show wpAny _ _ (Builtin.Tuple.tupleItemsOf (.ref t) >>= _) _ _ s
  refine wpAny_bind (tupleItemsOf_ ht ?_)
  refine wpAny_bind (wpAny_typeOf hTs ?_)
  rw [if_pos (by decide)]
  refine wpAny_bind (sliceApplied_rev hs ?_)
  have hno : ¬ ((((items.size : Int) - 1) == 0 && (-1 : Int) == 1 && items.size == items.size) = true) := by
    have : ((-1 : Int) == 1) = false := by decide
    rw [this]; simp
  show wpAny _ _ (if (((items.size : Int) - 1) == 0 && (-1 : Int) == 1 && items.size == items.size) = true then _ else _) _ _ s
  rw [if_neg hno, pick_rev items]
  first
    | exact wpAny_bind (m := Builtin.Tuple.tupleExact _) (wpAny_newObj_type (wpAny_pure ⟨_, rfl, wpAny_pure h⟩) hrev)
    | exact wpAny_bind (m := Builtin.Tuple.tupleExact _) (wpAny_newObj_type (wpAny_bind (wpAny_pure (wpAny_pure ⟨_, rfl, wpAny_pure h⟩))) hrev)
    | exact wpAny_bind (wpAny_bind (m := Builtin.Tuple.tupleExact _) (wpAny_newObj_type (wpAny_pure (wpAny_pure ⟨_, rfl, wpAny_pure h⟩)) hrev))
    | exact wpAny_bind (wpAny_bind (m := Builtin.Tuple.tupleExact _) (wpAny_newObj_type (wpAny_pure ⟨_, rfl, wpAny_pure h⟩) hrev))
end
section
variable {X : Cx} {r : Nat} {env : Env} {names : Names} {Xc : Prop} {A : Around} {as : List Addr} {s : Shared} {c : AS}

theorem nthI_some {α : Type} {l : List α} {k : Int} {x : α} (h : nthI l k = some x) : 0 ≤ k ∧ k < 2 ^ 63 ∧ l[k.toNat]? = some x ∧ seqIndex? k l.length = some k.toNat := by
  unfold nthI at h
  split at h
  · rename_i hk
    have hl : k.toNat < l.length := (List.getElem?_eq_some_iff.mp h).1
    have hlim : k ≤ (1000000 : Int) := hk.2
    refine ⟨hk.1, Int.lt_of_le_of_lt hlim (by decide), h, ?_⟩
    have hl' : k < (l.length : Int) := (Int.toNat_lt hk.1).mp hl
    unfold seqIndex?
    rw [if_neg (Int.not_lt.mpr hk.1)]
    dsimp only
    rw [decide_eq_true hk.1, decide_eq_true hl']
    rfl
  · cases h
theorem ints_get : ∀ {vs : List Value} {ns : List Int} {i : Nat} {n : Int}, IntsAre vs ns → ns[i]? = some n → ∃ t, vs[i]? = some (.int n t)
  | _, _, i, n, .nil, h => by simp at h
  | _, _, 0, n, .cons m t r, h => by simp at h; subst h; exact ⟨t, rfl⟩
  | _, _, i + 1, n, .cons m t r, h => by
    obtain ⟨u, e⟩ := ints_get r (i := i) (by simpa using h)
    exact ⟨u, by simpa using e⟩
theorem St.scr (G : X.Good) (st : St X env names c as s.heap) : ∃ vs, s.heap.IsList X.scr vs.toArray ∧ IntsAre vs X.ns := by
  obtain ⟨vs, ⟨o, h1, h2, n, h3⟩, hi⟩ := G.scr
  exact ⟨vs, ⟨o, st.base.1 _ _ h1, h2, n, h3⟩, hi⟩

noncomputable def NotSlice (e : Expr) : Prop := ∀ o i, subscripted e false o i = operate [o, i] (getItem o i)
theorem pm_sub (G : X.Good) {value slice : Expr} (hs : NotSlice slice) {v w : Value} {a b m : MV} {Q : MV → AS → Prop} (hv : vSub X.ns c.σ a b = some m) (hq : Q m c) :
    SemP X r env names Xc (P2 X v w a b) (RV X) (subscriptTail value slice v w) c Q := by
  intro A as s K E ac st ⟨rv, rw'⟩ hk hx
  have fin : ∀ u, RepM X as s.heap u m → K u s := fun u hu => hk _ _ c as s (.refl ac st) hu hq
  clear hx
  have q_ := orO_inv hv
  clear hv
  rcases q_ with h | h
  · clear ac hk hq
    obtain ⟨k, hk0, h⟩ := thenO_inv h
    rw [asInt_inv hk0] at rw'
    simp only [RepM, RepP] at rw'
    clear Q hk0
    obtain ⟨t2, rfl⟩ := rw'
    cases a with
    | p x =>
      cases x with
      | tup l =>
        simp only [RepM, RepP] at rv
        clear G st
        obtain ⟨d, vs, n, rfl, ho, hr⟩ := rv
        have q_ := Option.map_eq_some_iff.mp h
        clear h
        obtain ⟨x, hx', rfl⟩ := q_
        clear h
        obtain ⟨h0, h1, h2, h3⟩ := nthI_some hx'
        clear b hx'
        obtain ⟨u, hu, hru⟩ := hr.get h2
        refine tail_any (tupO_is ho).typeIs slot_tuple_getitem.lookup (getItem_tuple (tupO_is ho) (Int.le_trans (by decide) h0) h1 (by simpa [hr.len] using h3) (by simpa using hu) (fin u (by simpa only [RepM] using hru))) (hs _ _)
      | scr =>
        simp only [RepM, RepP] at rv
        subst rv
        have q_ := Option.map_eq_some_iff.mp h
        clear h
        obtain ⟨x, hx', rfl⟩ := q_
        clear h
        obtain ⟨h0, h1, h2, h3⟩ := nthI_some hx'
        clear b h3 hx'
        obtain ⟨vs, hl, hi⟩ := st.scr G
        clear G st
        obtain ⟨t, ht⟩ := ints_get hi h2
        refine tail_any hl.typeIs slot_list_getitem.lookup (wpAny_getItem_list hl h0 h1 (by simpa using ht) (fin _ (by simp only [RepM, RepP]; exact ⟨t, rfl⟩))) (hs _ _)
      | _ => cases h
    | mt l =>
      simp only [RepM] at rv
      clear G st
      obtain ⟨d, vs, n, rfl, ho, hr⟩ := rv
      obtain ⟨h0, h1, h2, h3⟩ := nthI_some h
      clear h
      obtain ⟨u, hu, hru⟩ := hr.get h2
      refine tail_any (tupO_is ho).typeIs slot_tuple_getitem.lookup (getItem_tuple (tupO_is ho) (Int.le_trans (by decide) h0) h1 (by simpa [hr.len] using h3) (by simpa using hu) (fin u hru)) (hs _ _)
    | loc j =>
      clear G
      obtain ⟨l, hl, h⟩ := thenO_inv h
      obtain ⟨o, ho', hl⟩ := thenO_inv hl
      rw [isLst_inv hl] at ho'
      clear hl o
      have q_ := st.lst ho' rv
      clear hl ho' rv st
      obtain ⟨d, vs, n, rfl, _, _, ho, hr⟩ := q_
      have q_ := Option.map_eq_some_iff.mp h
      clear h
      obtain ⟨x, hx', rfl⟩ := q_
      clear h
      obtain ⟨h0, h1, h2, h3⟩ := nthI_some hx'
      clear h h3 hx'
      obtain ⟨u, hu, hru⟩ := hr.get h2
      refine tail_any (lstO_is ho).typeIs slot_list_getitem.lookup (wpAny_getItem_list (lstO_is ho) h0 h1 (by simpa using hu) (fin u (by simpa only [RepM] using hru))) (hs _ _)
  · clear G fin
    obtain ⟨k, es, hk0, hd, hh⟩ := both_inv h
    clear h
    have q_ := dctAt_inv hd
    clear hd
    obtain ⟨j, rfl, hj⟩ := q_
    rw [asStr_inv hk0] at rw'
    simp only [RepM, RepP] at rw'
    clear hk0
    obtain ⟨hk', t2, rfl⟩ := rw'
    clear b
    have q_ := st.dct hj rv
    clear hj rv
    obtain ⟨d, vs, n, rfl, _, _, ho, hr⟩ := q_
    have hf := repEs_find hk' hr
    rw [hh] at hf
    clear h1 h2 hh hk' j
    obtain ⟨u, e, hu⟩ := hf
    have hm := repEs_map ho hr
    refine tail_any hm.typeIs slot_dict_getitem.lookup (wpAny_getItem_of (PySem.strKind_is X.prog X.w _ _) hm e (hk _ _ c as _ (.tok ac st _) hu hq)) (hs _ _)
end
end Mine
namespace Mine
section
variable {X : Cx} {r : Nat} {env : Env} {names : Names} {Xc : Prop} {A : Around} {as : List Addr} {s : Shared} {c : AS}

set_option tactic.hygienic true in
theorem cut_list {α : Type} {lo hi : Option Int} {rev : Bool} {l x : List α} (h : cutOf lo hi rev l = some x) :
    (lo = none ∧ hi = none ∧ rev = true ∧ x = l.reverse) ∨ (∃ a : Nat, lo = some (a : Int) ∧ hi = none ∧ rev = false ∧ a ≤ l.length ∧ x = l.drop a) ∨ (∃ b : Nat, lo = none ∧ hi = some (b : Int) ∧ rev = false ∧ b ≤ l.length ∧ x = l.take b) := by
  unfold cutOf at h
  split at h
  · cases h; exact .inl ⟨rfl, rfl, rfl, rfl⟩
  · rename_i a
    split at h
    · rename_i ha
      cases h
      exact .inr (.inl ⟨a.toNat, by congr 1; omega, rfl, rfl, by omega, rfl⟩)
    · cases h
  · rename_i a
    split at h
    · rename_i ha
      cases h
      exact .inr (.inr ⟨a.toNat, rfl, by congr 1; omega, rfl, by omega, rfl⟩)
    · cases h
  · cases h
noncomputable def stepOf (rev : Bool) : Option Int := if rev then some (-1) else none
set_option tactic.hygienic true in
theorem pm_cut (G : X.Good) {value slice : Expr} (hs : ∀ o i, ∃ ops, subscripted slice false o i = operate ops (getItem o i)) {v vl vu vs : Value} {sl : Addr} {lo hi : Option Int} {rev : Bool} {a m : MV} {σ' : List MO} {Q : MV → AS → Prop}
    (pl : IsPart vl lo) (pu : IsPart vu hi) (ps : IsPart vs (stepOf rev)) (hv : vCut c.σ lo hi rev a = some (m, σ')) (hq : Q m ⟨c.ρ, σ'⟩) :
    SemP X r env names Xc (fun as h => RepM X as h v a ∧ h.IsSliceOf sl vl vu vs) (RV X) (subscriptTail value slice v (.ref sl)) c Q := by
  intro A as s K E ac st ⟨rv, hsl⟩ hk hx
  unfold vCut at hv
  split at hv
  · rename_i l
    simp only [RepM, RepP] at rv
    clear G hx
    obtain ⟨d, ws, n, rfl, ho, hr⟩ := rv
    split at hv
    · rename_i hl
      obtain ⟨x, hx', e⟩ := Option.map_eq_some_iff.mp hv
      clear hv
      cases e
      obtain ⟨ops, ho'⟩ := hs (.ref d) (.ref sl)
      have hsz : ws.toArray.size ≤ sizeLine := by simp only [List.size_toArray, hr.len]; exact Nat.le_trans hl.1 (by decide)
      refine tail_any (tupO_is ho).typeIs slot_tuple_getitem.lookup ?_ ho'
      clear ho' hs ops slice value
      have q_ := cut_list hx'
      clear hx'
      rcases q_ with ⟨rfl, rfl, rfl, rfl⟩ | ⟨k, rfl, rfl, rfl, hk', rfl⟩ | ⟨k, rfl, rfl, rfl, hk', rfl⟩
      · clear hl
        cases pl
        cases pu
        cases ps
        have := At.tup (tk := s.toks) ac st (RepPs.rev hr)
        exact getItem_tuple_rev (tupO_is ho) hsl (hk _ _ c as _ this.1 this.2 hq) hsz
      · cases pl
        cases pu
        cases ps
        have h1 : 1 ≤ k := by have := hl.2; simp only [tupCut, decide_eq_true_eq] at this; omega
        have := At.tup (tk := s.toks) ac st (RepPs.drop k hr)
        exact getItem_tuple_from (tupO_is ho) hsl h1 (by simp only [List.size_toArray, hr.len]; exact hk') (hk _ _ c as _ this.1 this.2 hq) hsz
      · have := hl.2
        simp [tupCut] at this
    · clear ac hk ho hq hr hs hsl n pl ps pu st vl vs vu ws
      cases hv
  · rename_i j
    split at hv
    · rename_i l hj
      split at hv
      · rename_i hl
        clear G hx
        obtain ⟨x, hx', e⟩ := Option.map_eq_some_iff.mp hv
        clear hv
        cases e
        have q_ := st.lst hj rv
        clear hj rv
        obtain ⟨d, ws, n, rfl, _, _, ho, hr⟩ := q_
        obtain ⟨ops, ho'⟩ := hs (.ref d) (.ref sl)
        have hsz : ws.toArray.size ≤ sizeLine := by simp only [List.size_toArray, hr.len]; exact Nat.le_trans hl (by decide)
        refine tail_any (lstO_is ho).typeIs slot_list_getitem.lookup ?_ ho'
        refine wpAny_getItem_list_slice (lstO_is ho) hsl pl pu ps (by unfold stepOf; split <;> simp) ?_ hsz
        clear E hl ho ho' hs hsl hsz n ops pl ps pu sl slice value vl vs vu
        have q_ := cut_list hx'
        clear hx'
        rcases q_ with ⟨rfl, rfl, rfl, rfl⟩ | ⟨k, rfl, rfl, rfl, hk', rfl⟩ | ⟨k, rfl, rfl, rfl, hk', rfl⟩
        · have := At.lst (tk := s.toks) ac st (RepPs.rev hr)
          simp only [stepOf, if_true, krv_pick]
          exact hk _ _ _ _ _ this.1 this.2 hq
        · have := At.lst (tk := s.toks) ac st (RepPs.drop k hr)
          simp only [stepOf, Bool.false_eq_true, if_false]
          rw [slicePick_from _ _ (by simp only [List.size_toArray, hr.len]; exact hk')]
          exact hk _ _ _ _ _ this.1 this.2 hq
        · have := At.lst (tk := s.toks) ac st (RepPs.take k hr)
          simp only [stepOf, Bool.false_eq_true, if_false]
          rw [slicePick_upto _ _ (by simp only [List.size_toArray, hr.len]; exact hk')]
          exact hk _ _ _ _ _ this.1 this.2 hq
      · clear G ac hj hk hq hs hsl hx pl ps pu rev rv st vl vs vu
        cases hv
    · clear G ac hk hq hs hsl hx pl ps pu rev rv st vl vs vu
      cases hv
  · clear G ac hk hq hs hsl hx pl ps pu rev rv st vl vs vu
    cases hv
end
end Mine
namespace Mine
section
variable {X : Cx} {r : Nat} {env : Env} {names : Names} {Xc : Prop} {A : Around} {as as1 : List Addr} {s s1 : Shared} {c c1 : AS}

theorem SemP.next {α β : Type} {P : List Addr → Heap → Prop} {R : List Addr → Heap → α → β → Prop} {t : Sem α} {Q : β → AS → Prop} {K : α → Shared → Prop} {E : Value → Shared → Prop}
    (h : SemP X r env names Xc P R t c1 Q) (st : St X env names c as s.heap) (n : At X r env names A as s c1 as1 s1) (hP : P as1 s1.heap)
    (hk : ∀ a b c' as' s', At X r env names A as s c' as' s' → At X r env names A as1 s1 c' as' s' → R as' s'.heap a b → Q b c' → K a s')
    (hx : Xc → ∀ e s', ThrownAt X env A as s e s' → E (.ref e) s') : wpAny (model X.prog X.w) A t K E s1 :=
  h A as1 s1 K E n.cond n.st hP (fun a b c' as' s' n' hr hq => hk a b c' as' s' (n.trans n' (n.there st)) n' hr hq) fun x e s' t => hx x e s' (t.after st n)

theorem sem1 {α β : Type} {R : List Addr → Heap → α → β → Prop} {t : Sem α} {ta : Sem Value} {op : Value → Sem α} {Q1 : MV → AS → Prop} {Q : β → AS → Prop}
    (hw : ∀ A K E s, wpAny (model X.prog X.w) A ta (fun x s1 => wpAny (model X.prog X.w) A (op x) K E s1) E s → wpAny (model X.prog X.w) A t K E s)
    (h1 : SemE X r env names Xc ta c Q1) (h3 : ∀ v m c1, Q1 m c1 → SemP X r env names Xc (fun as h => RepM X as h v m) R (op v) c1 Q) : SemP X r env names Xc PT0 R t c Q := by
  intro A as s K E ac st _ hk hx
  refine hw _ _ _ _ (h1.next st (.refl ac st) trivial (fun v m c1 as1 s1 n1 z_ r1 q1 => ?_) hx)
  exact (h3 v m c1 q1).next st n1 r1 (fun a b c' as' s' n' z_ hr hq => hk a b c' as' s' n' hr hq) hx
theorem sem2 {α β : Type} {R : List Addr → Heap → α → β → Prop} {t : Sem α} {ta tb : Sem Value} {op : Value → Value → Sem α} {Q1 : MV → AS → Prop} {Q2 : MV → MV → AS → Prop} {Q : β → AS → Prop}
    (hw : ∀ A K E s, wpAny (model X.prog X.w) A ta (fun x s1 => wpAny (model X.prog X.w) A tb (fun y s2 => wpAny (model X.prog X.w) A (op x y) K E s2) E s1) E s → wpAny (model X.prog X.w) A t K E s)
    (h1 : SemE X r env names Xc ta c Q1) (h2 : ∀ m c1, Q1 m c1 → SemE X r env names Xc tb c1 (Q2 m)) (h3 : ∀ v w m k c2, Q2 m k c2 → SemP X r env names Xc (P2 X v w m k) R (op v w) c2 Q) : SemP X r env names Xc PT0 R t c Q := by
  intro A as s K E ac st _ hk hx
  refine hw _ _ _ _ (h1.next st (.refl ac st) trivial (fun v m c1 as1 s1 n1 z_ r1 q1 => ?_) hx)
  refine (h2 m c1 q1).next st n1 trivial (fun w k c2 as2 s2 n2 n2' r2 q2 => ?_) hx
  exact (h3 v w m k c2 q2).next st n2 ⟨n2'.rep n1.cond n1.st r1, r2⟩ (fun a b c' as' s' n' z_ hr hq => hk a b c' as' s' n' hr hq) hx
theorem SemP.imp {α β : Type} {P : List Addr → Heap → Prop} {R : List Addr → Heap → α → β → Prop} {t : Sem α} {Q Q' : β → AS → Prop}
    (h : SemP X r env names Xc P R t c Q) (hq : ∀ b c, Q b c → Q' b c) : SemP X r env names Xc P R t c Q' := h.mono (fun z_ z_ h => h) hq
theorem SemP.no {α β : Type} {P : List Addr → Heap → Prop} {R : List Addr → Heap → α → β → Prop} {t : Sem α} {Q : β → AS → Prop} (h : False) : SemP X r env names Xc P R t c Q := h.elim
theorem onP_elim {α : Type} {o : Option α} {Q : α → Prop} (h : onP o Q) : ∃ a, o = some a ∧ Q a := by
  cases o with
  | none => exact h.elim
  | some a => exact ⟨a, rfl, h⟩

/-! ### constants and names -/
theorem RepM.none {X : Cx} {as : List Addr} {h : Heap} : RepM X as h .none (.p (.con .none)) := ⟨rfl, .inl rfl⟩
theorem RepM.bool {X : Cx} {as : List Addr} {h : Heap} {b : Bool} : RepM X as h (.bool b) (.p (.con (.bool b))) := ⟨rfl, .inr ⟨b, rfl⟩⟩
theorem sem_int {i : Int} {k pos} {Q : MV → AS → Prop} (h : Q (mI i) c) : SemE X r env names Xc (eval (.Constant (.int i) k pos) env) c Q :=
  fun A as s K E ac st z_ hk hx => wpAny_Constant_int (hk _ _ c as _ (.tok ac st _) (by simp only [RepM, RepP]; exact ⟨_, rfl⟩) h)
theorem sem_str {x : Str} {j : Nat} (hj : codeOf x = some j) {k pos} {Q : MV → AS → Prop} (h : Q (mS j) c) : SemE X r env names Xc (eval (.Constant (.str x) k pos) env) c Q :=
  fun A as s K E ac st z_ hk hx => wpAny_Constant_str (hk _ _ c as _ (.tok ac st _) (by
    simp only [RepM, RepP]
    have hh := List.findIdx?_eq_some_iff_getElem.mp hj
    clear ac hj hk hx k pos st z_
    obtain ⟨hl, he, _⟩ := hh
    exact ⟨hl, s.toks, by rw [S_at hl, ← eq_of_beq he]⟩) h)
theorem sem_none {k pos} {Q : MV → AS → Prop} (h : Q (.p (.con .none)) c) : SemE X r env names Xc (eval (.Constant .none k pos) env) c Q :=
  fun A as s K E ac st z_ hk hx => wpAny_Constant_none (hk _ _ c as _ (.refl ac st) .none h)
theorem sem_bool {b : Bool} {k pos} {Q : MV → AS → Prop} (h : Q (.p (.con (.bool b))) c) : SemE X r env names Xc (eval (.Constant (.bool b) k pos) env) c Q :=
  fun A as s K E ac st z_ hk hx => wpAny_Constant_bool (hk _ _ c as _ (.refl ac st) .bool h)

theorem lookup_idx {x : Str} : ∀ {ns : Names} {i : Nat}, ns.findIdx? (fun p => p.1 == x) = some i → ∃ k, ns[i]? = some (x, k) ∧ ns.lookup x = some k := @fun y1_ y2_ y3_ => match y1_, y2_, y3_ with
  | [], i, h => by simp at h
  | (y, k) :: r, i, h => by
    rw [List.findIdx?_cons] at h
    by_cases e : y = x
    · clear y3_
      subst e
      simp at h
      clear y1_ y2_
      subst h
      exact ⟨k, rfl, by simp⟩
    · have e1 : (y == x) = false := beq_eq_false_iff_ne.mpr e
      have e2 : (x == y) = false := beq_eq_false_iff_ne.mpr (Ne.symm e)
      simp only [e1, Bool.false_eq_true, if_false, Option.map_eq_some_iff] at h
      clear e e1 y3_
      obtain ⟨j, hj, rfl⟩ := h
      clear y1_ y2_
      obtain ⟨k', h1, h2⟩ := lookup_idx hj
      exact ⟨k', by simpa using h1, by rw [List.lookup_cons, e2]; exact h2⟩
set_option tactic.hygienic true in
theorem lvIdx_is {ns : Names} {x : Str} {i : Nat} (h : lvIdx ns x = some i) : ∃ k, ns[i]? = some (x, k) ∧ ns.lookup x = some k ∧ isVar k = true := by
  unfold lvIdx at h
  split at h
  · rename_i j hj
    obtain ⟨k, h1, h2⟩ := lookup_idx hj
    split at h
    · rename_i hv
      clear hj
      cases h
      rw [h1] at hv
      exact ⟨k, h1, h2, by simpa using hv⟩
    · clear h1 h2 hj k
      cases h
  · cases h
theorem kind_of (E : EnvOK env names) (x : Str) : env.kindOf x = names.lookup x := by rw [← E.nm]; rfl
theorem sem_lv (E : EnvOK env names) {x : Str} {i : Nat} {pos} (hd : (x == ("__debug__" : Str)) = false) (hi : lvIdx names x = some i) {Q : MV → AS → Prop} (h : onP (c.ρ.getD i none) fun v => Q v c) :
    SemE X r env names Xc (eval (.Name x pos) env) c Q := by
  intro A as s K Ex ac st _ hk hx
  clear hx
  obtain ⟨k, h1, h2, h3⟩ := lvIdx_is hi
  clear hi
  obtain ⟨m, F⟩ := st.frame
  obtain ⟨mv, hmv, hq⟩ := onP_elim h
  have hρ : c.ρ[i]? = some (some mv) := by
    rw [List.getD_eq_getElem?_getD] at hmv
    clear E Ex F ac h h1 h2 h3 hd hk hq k m pos st x
    cases e : c.ρ[i]? with
    | none => rw [e] at hmv; cases hmv
    | some o => rw [e] at hmv; simp at hmv; rw [hmv]
  have hv := F.var i mv x k hρ h1
  have hkd := (kind_of E x).trans h2
  clear h h1 h2 hmv hρ i
  cases k with
  | «local» =>
    clear h3
    obtain ⟨v, e, hr⟩ := hv
    exact wpAny_Name (wpAny_loadName_local E.kind hkd F.ns e (hk _ _ c as s (.refl ac st) hr hq)) hd
  | cell =>
    clear F h3
    obtain ⟨a, v, e1, e2, hr⟩ := hv
    exact wpAny_Name (wpAny_loadName_cell E.kind hkd e1 e2 (hk _ _ c as s (.refl ac st) hr hq)) hd
  | free => cases h3
  | globalExplicit => cases h3
  | globalImplicit => cases h3
theorem sem_gl (G : X.Good) (GG : GlobOK X) (E : EnvOK env names) {x : Str} {j : Nat} {pos} (hd : (x == ("__debug__" : Str)) = false) (hi : glIdx names x = some j) {Q : MV → AS → Prop} (h : onP (gPV j) fun v => Q (.p v) c) :
    SemE X r env names Xc (eval (.Name x pos) env) c Q := by
  intro A as s K Ex ac st _ hk hx
  unfold glIdx at hi
  split at hi
  · rename_i hg
    clear hx
    obtain ⟨pv, hpv, hq⟩ := onP_elim h
    clear h
    obtain ⟨x', v, e, hm, hr⟩ := GG j pv hpv
    clear GG hpv
    obtain ⟨hl, he, _⟩ := List.findIdx?_eq_some_iff_getElem.mp hi
    rw [List.getElem?_eq_getElem hl] at e
    have hx' : x' = x := by rw [← Option.some.inj e]; exact eq_of_beq he
    clear e he hi
    subst hx'
    have hkd : env.kindOf x' = some .globalImplicit := (kind_of E x').trans (eq_of_beq hg)
    have fin : K v s := hk v (.p pv) c as s (.refl ac st) (by simp only [RepM]; exact hr.keep (tkeep_all st.base.1)) hq
    refine Calls.Name_function_global E.kind hkd ?_ hd
    have g1 : s.heap.Ns env.globals X.mg := by rw [E.globals]; exact G.g.keeps st.base.1
    have g2 : s.heap.Ns env.builtins X.mb := by rw [E.builtins]; exact G.b.keeps st.base.1
    clear E G ac hd hg hk hkd hq hr pos pv st
    rcases hm with hm | ⟨hm, hb⟩
    · exact Calls.loadGlobal_global g1 hm fin
    · exact Calls.loadGlobal_builtin g1 hm g2 hb fin
  · clear E G GG ac h hd hk hx st
    cases hi

/-! ### truth -/
theorem pm_truth {v : Value} {m : MV} {b : Bool} (hv : vTruth m = some b) {Q : Bool → AS → Prop} (hq : Q b c) : SemP X r env names Xc (fun as h => RepM X as h v m) RB (truthy v) c Q := by
  intro A as s K E ac st rv hk hx
  unfold vTruth at hv
  split at hv
  · clear hx
    cases hv
    simp only [RepM, RepP] at rv
    obtain ⟨rfl, _⟩ := rv
    exact wpAny_truthy_bool (hk _ _ c as s (.refl ac st) rfl hq)
  · clear ac hk hq hx rv st
    cases hv
theorem pm_not {v : Value} {m : MV} {b : Bool} (hv : vTruth m = some b) {Q : MV → AS → Prop} (hq : Q (mB !b) c) : SemP X r env names Xc (fun as h => RepM X as h v m) (RV X) (unaryOp .Not v) c Q := by
  intro A as s K E ac st rv hk hx
  exact not_value ((pm_truth hv (Q := fun b' c' => b' = b ∧ c' = c) ⟨rfl, rfl⟩).next st (.refl ac st) rv (fun a b' c' as' s' n z_ e q => by
    clear ac hv rv st v z_
    obtain ⟨rfl, rfl⟩ := q
    clear m
    cases e
    exact hk _ _ _ _ _ n .bool hq) hx)
theorem pm_neg {v : Value} {m : MV} {i : Int} (hv : asInt m = some i) {Q : MV → AS → Prop} (hq : Q (mI (-i)) c) : SemP X r env names Xc (fun as h => RepM X as h v m) (RV X) (unaryOp .USub v) c Q := by
  intro A as s K E ac st rv hk hx
  unfold asInt at hv
  split at hv
  · clear hx
    cases hv
    simp only [RepM, RepP] at rv
    obtain ⟨t, rfl⟩ := rv
    exact P.neg_int (hk _ _ c as _ (.tok ac st _) (by simp only [RepM, RepP]; exact ⟨_, rfl⟩) hq)
  · clear ac hk hq hx rv st
    cases hv
/-- the truth of an expression that is no junction, by its value -/
theorem semT_of {e : Expr} {whole : Sem Value} (he : isTrue e env whole = (do let v ← whole; standAt e.pos; holding [v] (truthy v))) {B : Bool → AS → Prop}
    (h : SemE X r env names Xc whole c fun v c₁ => onP (vTruth v) fun b => B b c₁) : SemB X r env names Xc (isTrue e env whole) c B :=
  sem1 (fun z_ z_ z_ z_ h => wpAny_isTrue_value h he) h fun v m c1 q => by
    clear h he whole
    obtain ⟨b, hb, hq⟩ := onP_elim q
    exact pm_truth hb hq

/-! ### operators -/
noncomputable def NotMarked (op : CmpOp) (e : Expr) : Prop := behindInMarks op e = false
theorem sem_cmp (G : X.Good) {op : COp} {a b : Expr} {pos} (hm : NotMarked (copOf op) b) {Q : MV → AS → Prop}
    {Q1 : MV → AS → Prop} {Q2 : MV → MV → AS → Prop} (h1 : SemE X r env names Xc (eval a env) c Q1) (h2 : ∀ m c1, Q1 m c1 → SemE X r env names Xc (eval b env) c1 (Q2 m))
    (h3 : ∀ m k c2, Q2 m k c2 → onP (vCmp c2.σ op m k) fun t => Q (mB t) c2) : SemE X r env names Xc (eval (.Compare a [copOf op] [b] pos) env) c Q := by
  refine sem2 (op := fun x y => compareOp (copOf op) x y) (fun z_ z_ z_ z_ h => wpAny_Compare1 h hm) h1 h2 fun v w m k c2 q => ?_
  clear h1 h2 hm pos
  obtain ⟨t, ht, hq⟩ := onP_elim (h3 m k c2 q)
  intro A as s K E ac st hp hk hx
  exact (pm_cmp (X := X) (r := r) (env := env) (names := names) (Xc := Xc) (v := v) (w := w) G ht (Q := fun b c' => b = t ∧ c' = c2) ⟨rfl, rfl⟩) A as s K E ac st hp (fun a b' c' as' s' n e q => by
    clear G Q1 ac b h3 hp ht op st v w
    obtain ⟨rfl, rfl⟩ := q
    exact hk a (mB b') c' as' s' n (by rw [e]; exact .bool) hq) hx
theorem sem_cmpT (G : X.Good) {op : COp} {a b : Expr} {pos whole} (hm : NotMarked (copOf op) b) {B : Bool → AS → Prop}
    {Q1 : MV → AS → Prop} {Q2 : MV → MV → AS → Prop} (h1 : SemE X r env names Xc (eval a env) c Q1) (h2 : ∀ m c1, Q1 m c1 → SemE X r env names Xc (eval b env) c1 (Q2 m))
    (h3 : ∀ m k c2, Q2 m k c2 → onP (vCmp c2.σ op m k) fun t => B t c2) : SemB X r env names Xc (isTrue (.Compare a [copOf op] [b] pos) env whole) c B := by
  intro A as s K E ac st _ hk hx
  refine wpAny_isTrue_Compare1 (h1.next st (.refl ac st) trivial (fun v m c1 as1 s1 n1 z_ r1 q1 => ?_) hx) hm
  refine (h2 m c1 q1).next st n1 trivial (fun w k c2 as2 s2 n2 n2' r2 q2 => ?_) hx
  clear ac h1 h2 hm pos q1 whole
  obtain ⟨t, ht, hq⟩ := onP_elim (h3 m k c2 q2)
  refine (pm_cmp (X := X) (r := r) (env := env) (names := names) (Xc := Xc) (v := v) (w := w) G ht (Q := fun b c' => b = t ∧ c' = c2) ⟨rfl, rfl⟩).next st n2 ⟨n2'.rep n1.cond n1.st r1, r2⟩ (fun a b' c' as' s' n z_ e q => ?_) hx
  clear G Q1 b h3 ht hx n1 n2 n2' op q2 r1 r2 st v w z_
  obtain ⟨rfl, rfl⟩ := q
  rw [e]
  exact wpAny_truthy_bool (hk _ _ c' as' s' n rfl hq)
theorem sem_bin (G : X.Good) {op : BOp} {a b : Expr} {pos} {Q : MV → AS → Prop}
    {Q1 : MV → AS → Prop} {Q2 : MV → MV → AS → Prop} (h1 : SemE X r env names Xc (eval a env) c Q1) (h2 : ∀ m c1, Q1 m c1 → SemE X r env names Xc (eval b env) c1 (Q2 m))
    (h3 : ∀ m k c2, Q2 m k c2 → onP (vBin c2.σ op m k) fun q => Q q.1 ⟨c2.ρ, q.2⟩) : SemE X r env names Xc (eval (.BinOp a (bopOf op) b pos) env) c Q :=
  sem2 (op := fun x y => binaryOp (bopOf op) x y) (fun z_ z_ z_ z_ h => wpAny_BinOp h) h1 h2 fun v w m k c2 q => by
    clear h1 h2 pos
    obtain ⟨⟨x, σ'⟩, ht, hq⟩ := onP_elim (h3 m k c2 q)
    exact pm_bin G ht hq
theorem sem_sub (G : X.Good) {a b : Expr} {pos} (hs : NotSlice b) {Q : MV → AS → Prop}
    {Q1 : MV → AS → Prop} {Q2 : MV → MV → AS → Prop} (h1 : SemE X r env names Xc (eval a env) c Q1) (h2 : ∀ m c1, Q1 m c1 → SemE X r env names Xc (eval b env) c1 (Q2 m))
    (h3 : ∀ m k c2, Q2 m k c2 → onP (vSub X.ns c2.σ m k) fun q => Q q c2) : SemE X r env names Xc (eval (.Subscript a b pos) env) c Q :=
  sem2 (op := fun x y => subscriptTail a b x y) (fun z_ z_ z_ z_ h => Subscript_ h) h1 h2 fun v w m k c2 q => by
    clear h1 h2 pos
    obtain ⟨x, ht, hq⟩ := onP_elim (h3 m k c2 q)
    exact pm_sub G hs ht hq
end
end Mine
namespace Mine
section
variable {X : Cx} {r : Nat} {env : Env} {names : Names} {Xc : Prop} {A : Around} {as as1 : List Addr} {s s1 : Shared} {c c1 : AS}

theorem sem_not {a : Expr} {pos} {Q : MV → AS → Prop} (h : SemE X r env names Xc (eval a env) c fun v c₁ => onP (vTruth v) fun b => Q (mB (!b)) c₁) : SemE X r env names Xc (eval (.UnaryOp .Not a pos) env) c Q :=
  sem1 (op := fun x => unaryOp .Not x) (fun z_ z_ z_ z_ h => wpAny_UnaryOp h) h fun v m c1 q => by
    clear h pos
    obtain ⟨b, hb, hq⟩ := onP_elim q
    exact pm_not hb hq
theorem sem_neg {a : Expr} {pos} {Q : MV → AS → Prop} (h : SemE X r env names Xc (eval a env) c fun v c₁ => onP (asInt v) fun i => Q (mI (-i)) c₁) : SemE X r env names Xc (eval (.UnaryOp .USub a pos) env) c Q :=
  sem1 (op := fun x => unaryOp .USub x) (fun z_ z_ z_ z_ h => wpAny_UnaryOp h) h fun v m c1 q => by
    clear h pos
    obtain ⟨b, hb, hq⟩ := onP_elim q
    exact pm_neg hb hq
theorem semT_not {a : Expr} {pos whole} {B : Bool → AS → Prop} (h : SemB X r env names Xc (isTrue a env (eval a env)) c fun b c₁ => B (!b) c₁) : SemB X r env names Xc (isTrue (.UnaryOp .Not a pos) env whole) c B := by
  intro A as s K E ac st _ hk hx
  exact wpAny_isTrue_Not (h.next st (.refl ac st) trivial (fun a b c' as' s' n z_ e q => by cases e; exact hk _ _ c' as' s' n rfl q) hx)
/-- a value, then its truth -/
theorem sem_and {a b : Expr} {pos} {Q : MV → AS → Prop} {Q1 : MV → AS → Prop} (h1 : SemE X r env names Xc (eval a env) c Q1)
    (h2 : ∀ v c1, Q1 v c1 → ∃ t, vTruth v = some t ∧ (t = true → SemE X r env names Xc (eval b env) c1 Q) ∧ (t = false → Q v c1)) : SemE X r env names Xc (eval (.BoolOp .And [a, b] pos) env) c Q := by
  intro A as s K E ac st _ hk hx
  refine wpAny_And2 (h1.next st (.refl ac st) trivial (fun v m c1 as1 s1 n1 z_ r1 q1 => ?_) hx)
  clear ac h1 pos
  obtain ⟨t, ht, h3, h4⟩ := h2 m c1 q1
  refine (pm_truth (r := r) (Xc := Xc) ht (Q := fun b' c' => b' = t ∧ c' = c1) ⟨rfl, rfl⟩).next st n1 r1 (fun x b' c' as' s' n n' e q => ?_) hx
  clear a h2 ht q1
  obtain ⟨rfl, rfl⟩ := q
  clear Q1
  cases e
  cases x with
  | true => exact (h3 rfl).next st n trivial (fun x y c2 as2 s2 n2 z_ hr hq => hk x y c2 as2 s2 n2 hr hq) hx
  | false => exact hk v m _ _ _ n (n'.rep n1.cond n1.st r1) (h4 rfl)
theorem sem_or {a b : Expr} {pos} {Q : MV → AS → Prop} {Q1 : MV → AS → Prop} (h1 : SemE X r env names Xc (eval a env) c Q1)
    (h2 : ∀ v c1, Q1 v c1 → ∃ t, vTruth v = some t ∧ (t = false → SemE X r env names Xc (eval b env) c1 Q) ∧ (t = true → Q v c1)) : SemE X r env names Xc (eval (.BoolOp .Or [a, b] pos) env) c Q := by
  intro A as s K E ac st _ hk hx
  refine wpAny_Or2 (h1.next st (.refl ac st) trivial (fun v m c1 as1 s1 n1 z_ r1 q1 => ?_) hx)
  clear ac h1 pos
  obtain ⟨t, ht, h3, h4⟩ := h2 m c1 q1
  refine (pm_truth (r := r) (Xc := Xc) ht (Q := fun b' c' => b' = t ∧ c' = c1) ⟨rfl, rfl⟩).next st n1 r1 (fun x b' c' as' s' n n' e q => ?_) hx
  clear a h2 ht q1
  obtain ⟨rfl, rfl⟩ := q
  clear Q1
  cases e
  cases x with
  | false => exact (h3 rfl).next st n trivial (fun x y c2 as2 s2 n2 z_ hr hq => hk x y c2 as2 s2 n2 hr hq) hx
  | true => exact hk v m _ _ _ n (n'.rep n1.cond n1.st r1) (h4 rfl)
theorem semT_and {a b : Expr} {pos whole} {B : Bool → AS → Prop} {B1 : Bool → AS → Prop} (h1 : SemB X r env names Xc (isTrue a env (eval a env)) c B1)
    (h2 : ∀ t c1, B1 t c1 → (t = true → SemB X r env names Xc (isTrue b env (eval b env)) c1 B) ∧ (t = false → B false c1)) : SemB X r env names Xc (isTrue (.BoolOp .And [a, b] pos) env whole) c B := by
  intro A as s K E ac st _ hk hx
  refine wpAny_isTrue_BoolOp (wpAny_allTrue_And_cons (h1.next st (.refl ac st) trivial (fun t t' c1 as1 s1 n1 z_ e q1 => ?_) hx))
  clear ac h1 pos whole
  cases e
  clear a
  obtain ⟨h3, h4⟩ := h2 _ c1 q1
  clear h2 q1
  cases t with
  | true => exact wpAny_allTrue_And_cons ((h3 rfl).next st n1 trivial (fun x y c2 as2 s2 n2 z_ hr hq => by
      clear B1 h3 h4 n1 st z_
      cases hr
      clear b z_
      cases x with
      | true => exact wpAny_allTrue_And_nil (hk _ _ c2 as2 s2 n2 rfl hq)
      | false => exact hk _ _ c2 as2 s2 n2 rfl hq) hx)
  | false => exact hk _ _ c1 as1 s1 n1 rfl (h4 rfl)
theorem semT_or {a b : Expr} {pos whole} {B : Bool → AS → Prop} {B1 : Bool → AS → Prop} (h1 : SemB X r env names Xc (isTrue a env (eval a env)) c B1)
    (h2 : ∀ t c1, B1 t c1 → (t = false → SemB X r env names Xc (isTrue b env (eval b env)) c1 B) ∧ (t = true → B true c1)) : SemB X r env names Xc (isTrue (.BoolOp .Or [a, b] pos) env whole) c B := by
  intro A as s K E ac st _ hk hx
  refine wpAny_isTrue_BoolOp (wpAny_allTrue_Or_cons (h1.next st (.refl ac st) trivial (fun t t' c1 as1 s1 n1 z_ e q1 => ?_) hx))
  clear ac h1 pos whole
  cases e
  clear a
  obtain ⟨h3, h4⟩ := h2 _ c1 q1
  clear h2 q1
  cases t with
  | false => exact wpAny_allTrue_Or_cons ((h3 rfl).next st n1 trivial (fun x y c2 as2 s2 n2 z_ hr hq => by
      clear B1 h3 h4 n1 st z_
      cases hr
      clear b z_
      cases x with
      | false => exact wpAny_allTrue_Or_nil (hk _ _ c2 as2 s2 n2 rfl hq)
      | true => exact hk _ _ c2 as2 s2 n2 rfl hq) hx)
  | true => exact hk _ _ c1 as1 s1 n1 rfl (h4 rfl)
theorem sem_ite {t a b : Expr} {pos} {Q : MV → AS → Prop} {B1 : Bool → AS → Prop} (h1 : SemB X r env names Xc (isTrue t env (eval t env)) c B1)
    (h2 : ∀ x c1, B1 x c1 → (x = true → SemE X r env names Xc (eval a env) c1 Q) ∧ (x = false → SemE X r env names Xc (eval b env) c1 Q)) : SemE X r env names Xc (eval (.IfExp t a b pos) env) c Q := by
  intro A as s K E ac st _ hk hx
  refine wpAny_IfExp (h1.next st (.refl ac st) trivial (fun t t' c1 as1 s1 n1 z_ e q1 => ?_) hx)
  clear ac h1 pos
  cases e
  obtain ⟨h3, h4⟩ := h2 _ c1 q1
  clear h2 q1
  cases t with
  | true => exact (h3 rfl).next st n1 trivial (fun x y c2 as2 s2 n2 z_ hr hq => hk x y c2 as2 s2 n2 hr hq) hx
  | false => exact (h4 rfl).next st n1 trivial (fun x y c2 as2 s2 n2 z_ hr hq => hk x y c2 as2 s2 n2 hr hq) hx
theorem semT_ite {t a b : Expr} {pos whole} {B : Bool → AS → Prop} {B1 : Bool → AS → Prop} (h1 : SemB X r env names Xc (isTrue t env (eval t env)) c B1)
    (h2 : ∀ x c1, B1 x c1 → (x = true → SemB X r env names Xc (isTrue a env (eval a env)) c1 B) ∧ (x = false → SemB X r env names Xc (isTrue b env (eval b env)) c1 B)) : SemB X r env names Xc (isTrue (.IfExp t a b pos) env whole) c B := by
  intro A as s K E ac st _ hk hx
  show wpAny _ _ (isTrue t env (eval t env) >>= fun x => if x = true then isTrue a env (eval a env) else isTrue b env (eval b env)) _ _ _
  refine wpAny_bind (h1.next st (.refl ac st) trivial (fun t t' c1 as1 s1 n1 z_ e q1 => ?_) hx)
  clear ac h1 pos whole
  cases e
  obtain ⟨h3, h4⟩ := h2 _ c1 q1
  clear h2 q1
  cases t with
  | true => exact (h3 rfl).next st n1 trivial (fun x y c2 as2 s2 n2 z_ hr hq => hk x y c2 as2 s2 n2 hr hq) hx
  | false => exact (h4 rfl).next st n1 trivial (fun x y c2 as2 s2 n2 z_ hr hq => hk x y c2 as2 s2 n2 hr hq) hx

/-! ### lists of trees -/
abbrev SemL (X : Cx) (r : Nat) (env : Env) (names : Names) (Xc : Prop) (t : Sem (List Value)) (c : AS) (Q : List MV → AS → Prop) : Prop := SemP X r env names Xc PT0 (RL X) t c Q
theorem semL_nil {pos : Pos} {Q : List MV → AS → Prop} (h : Q [] c) : SemL X r env names Xc (spliced (backTo pos (starEach [] env))) c Q :=
  fun A as s K E ac st z_ hk hx => wpAny_items_nil (hk _ _ c as s (.refl ac st) (by simp only [RL, RepMs]) h)
theorem semL_cons {pos : Pos} {e : Expr} {rest : List Expr} {Q : List MV → AS → Prop} {Q1 : MV → AS → Prop} (he : starEach (e :: rest) env = (false, eval e env) :: starEach rest env)
    (h1 : SemE X r env names Xc (eval e env) c Q1) (h2 : ∀ v c1, Q1 v c1 → SemL X r env names Xc (spliced (backTo pos (starEach rest env))) c1 fun vs c2 => Q (v :: vs) c2) :
    SemL X r env names Xc (spliced (backTo pos (starEach (e :: rest) env))) c Q := by
  intro A as s K E ac st _ hk hx
  refine wpAny_items_cons (h1.next st (.refl ac st) trivial (fun v m c1 as1 s1 n1 z_ r1 q1 => ?_) hx) he
  exact (h2 m c1 q1).next st n1 trivial (fun vs ms c2 as2 s2 n2 n2' r2 q2 => hk _ (m :: ms) c2 as2 s2 n2 (by simp only [RL, RepMs]; exact ⟨v, vs, rfl, n2'.rep n1.cond n1.st r1, r2⟩) q2) hx
theorem repMs_allP {as : List Addr} {h : Heap} : ∀ {vs : List Value} {ms : List MV} {l : List PV}, RepMs X as h vs ms → allP ms = some l → RepPs X h vs l := @fun y1_ y2_ y3_ y4_ y5_ => match y1_, y2_, y3_, y4_, y5_ with
  | vs, [], l, r, e => by
    simp only [RepMs] at r
    simp only [allP, Option.some.injEq] at e
    clear y4_ y5_
    subst r
    clear as y1_ y2_ y3_
    subst e
    simp [RepPs]
  | vs, .p x :: ms, l, r, e => by
    simp only [RepMs, RepM] at r
    clear y4_ y5_
    obtain ⟨v, q, rfl, h1, h2⟩ := r
    simp only [allP, Option.map_eq_some_iff] at e
    clear y1_ y2_ y3_
    obtain ⟨l', e', rfl⟩ := e
    simp only [RepPs]
    exact ⟨v, q, rfl, h1, repMs_allP h2 e'⟩
  | vs, .loc z1_ :: ms, l, r, e => by simp [allP] at e
  | vs, .mt z1_ :: ms, l, r, e => by simp [allP] at e
theorem sem_tup {es : List Expr} {k : Nat} {pos : Pos} {Q : MV → AS → Prop} (h : SemL X r env names Xc (spliced (backTo pos (starEach es env))) c fun vs c₁ => vs.length ≤ lim ∧ Q (mkTup vs) c₁) :
    SemE X r env names Xc (eval (.Tuple es k pos) env) c Q := by
  intro A as s K E ac st _ hk hx
  refine wpAny_Tuple (h.next st (.refl ac st) trivial (fun vs ms c1 as1 s1 n1 _ r1 q1 => ⟨?_, ?_⟩) hx)
  · rw [r1.len]; exact Nat.le_trans q1.1 (by decide)
  · have n2 : At X r env names A as1 s1 c1 as1 { s1 with heap := s1.heap.push (tupO vs 0) } := .grow n1.cond n1.st fun b o e => Heap.get?_push_of_some _ e
    refine hk _ (mkTup ms) c1 as1 _ (n1.trans n2 (n1.there st)) ?_ q1.2
    unfold mkTup
    clear ac h hk hx k n1 n2 pos q1 st
    split
    · rename_i l hl
      simp only [RepM, RepP]
      exact ⟨_, vs, 0, rfl, Heap.get?_push_size _ rfl, (repMs_allP r1 hl).keep (tkeep_all fun b o e => Heap.get?_push_of_some _ e)⟩
    · simp only [RepM]
      exact ⟨_, vs, 0, rfl, Heap.get?_push_size _ rfl, r1.keep (tkeep_all fun b o e => Heap.get?_push_of_some _ e)⟩
theorem sem_lst {es : List Expr} {pos : Pos} {Q : MV → AS → Prop} (h : SemL X r env names Xc (spliced (backTo pos (starEach es env))) c fun vs c₁ => onP (allP vs) fun l => l.length ≤ lim ∧ Q (.loc c₁.σ.length) ⟨c₁.ρ, c₁.σ ++ [.lst l]⟩) :
    SemE X r env names Xc (eval (.List es pos) env) c Q := by
  intro A as s K E ac st _ hk hx
  refine wpAny_List (h.next st (.refl ac st) trivial (fun vs ms c1 as1 s1 n1 z_ r1 q1 => ?_) hx)
  clear ac h hx pos z_
  obtain ⟨l, hl, hq⟩ := onP_elim q1
  have hr := repMs_allP r1 hl
  refine ⟨by rw [hr.len]; exact Nat.le_trans hq.1 (by decide), ?_⟩
  have n2 := At.lst (tk := s1.toks) n1.cond n1.st hr
  exact hk _ _ _ _ _ (n1.trans n2.1 (n1.there st)) n2.2 hq.2
theorem At.dct (ac : ACond X A r as s.heap) (st : St X env names c as s.heap) {tk : Nat} :
    At X r env names A as s ⟨c.ρ, c.σ ++ [.dct []]⟩ (as ++ [s.heap.objs.size]) { s with heap := s.heap.push (dictOf [] 0), toks := tk } ∧
      RepM X (as ++ [s.heap.objs.size]) (s.heap.push (dictOf [] 0)) (.ref s.heap.objs.size) (.loc c.σ.length) := by
  refine ⟨.new ac st rfl ⟨[], 0, rfl, by simp only [RepEs]⟩, ?_⟩
  simp only [RepM]
  exact ⟨_, by rw [← st.store.1, List.getElem?_concat_length], rfl⟩
theorem sem_dct0 {pos : Pos} {Q : MV → AS → Prop} (h : Q (.loc c.σ.length) ⟨c.ρ, c.σ ++ [.dct []]⟩) : SemE X r env names Xc (eval (.Dict [] [] pos) env) c Q := by
  intro A as s K E ac st _ hk hx
  have n := At.dct (tk := s.toks) ac st
  exact wpAny_Dict_empty (hk _ _ _ _ _ n.1 n.2 h)

/-! ### slices -/
theorem slc_has (value : Expr) (lower upper step : Option Expr) (p : Pos) : ∀ o i, ∃ ops, subscripted (.Slice lower upper step p) false o i = operate ops (getItem o i) := fun o i => by
  clear value
  cases step with
  | none => exact ⟨[i, o], rfl⟩
  | some x => exact ⟨[o, i], rfl⟩
/-- a slice object is made -/
theorem At.slc (ac : ACond X A r as s.heap) (st : St X env names c as s.heap) (vl vu vs : Value) : At X r env names A as s c as { s with heap := s.heap.push { cls := .type "slice", data := .fields #[vl, vu, vs] } } :=
  .grow ac st fun b o e => Heap.get?_push_of_some _ e
theorem sem_from (G : X.Good) {a x : Expr} {p pos : Pos} {Q : MV → AS → Prop} {Q1 : MV → AS → Prop} {Q2 : MV → MV → AS → Prop}
    (h1 : SemE X r env names Xc (eval a env) c Q1) (h2 : ∀ m c1, Q1 m c1 → SemE X r env names Xc (eval x env) c1 (Q2 m))
    (h3 : ∀ m k c2, Q2 m k c2 → onP (asInt k) fun i => onP (vCut c2.σ (some i) none false m) fun q => Q q.1 ⟨c2.ρ, q.2⟩) : SemE X r env names Xc (eval (.Subscript a (.Slice (some x) none none p) pos) env) c Q := by
  intro A as s K E ac st _ hk hx
  refine Subscript_ (h1.next st (.refl ac st) trivial (fun v m c1 as1 s1 n1 z_ r1 q1 => ?_) hx)
  refine wpAny_Slice ?_
  rw [evalPart_some]
  refine (h2 m c1 q1).next st n1 trivial (fun w k c2 as2 s2 n2 n2' r2 q2 => ?_) hx
  clear ac h1 h2 pos q1
  obtain ⟨i, hi, q3⟩ := onP_elim (h3 m k c2 q2)
  clear Q1 h3 q2
  obtain ⟨⟨x', σ'⟩, hc, hq⟩ := onP_elim q3
  unfold asInt at hi
  split at hi
  · clear Q2 q3
    cases hi
    simp only [RepM, RepP] at r2
    obtain ⟨t, rfl⟩ := r2
    simp only [evalPart_none]
    refine wpAny_pure (wpAny_pure ?_)
    have n3 := At.slc n2.cond n2.st (.int i t) .none .none
    exact (pm_cut (X := X) (r := r) (env := env) (names := names) (Xc := Xc) G (slc_has a _ _ _ p) (.int i t) .none .none hc hq).next st (n2.trans n3 (n2.there st)) ⟨n3.rep n2.cond n2.st (n2'.rep n1.cond n1.st r1), Heap.IsSliceOf.new ..⟩ (fun a b c' as' s' n z_ hr hq => hk a b c' as' s' n hr hq) hx
  · clear G Q2 hc hk hq hx n1 n2 n2' q3 r1 r2 st x' z_ σ'
    cases hi
theorem sem_upto (G : X.Good) {a x : Expr} {p pos : Pos} {Q : MV → AS → Prop} {Q1 : MV → AS → Prop} {Q2 : MV → MV → AS → Prop}
    (h1 : SemE X r env names Xc (eval a env) c Q1) (h2 : ∀ m c1, Q1 m c1 → SemE X r env names Xc (eval x env) c1 (Q2 m))
    (h3 : ∀ m k c2, Q2 m k c2 → onP (asInt k) fun i => onP (vCut c2.σ none (some i) false m) fun q => Q q.1 ⟨c2.ρ, q.2⟩) : SemE X r env names Xc (eval (.Subscript a (.Slice none (some x) none p) pos) env) c Q := by
  intro A as s K E ac st _ hk hx
  refine Subscript_ (h1.next st (.refl ac st) trivial (fun v m c1 as1 s1 n1 z_ r1 q1 => ?_) hx)
  refine wpAny_Slice ?_
  simp only [evalPart_none]
  refine wpAny_pure ?_
  rw [evalPart_some]
  refine (h2 m c1 q1).next st n1 trivial (fun w k c2 as2 s2 n2 n2' r2 q2 => ?_) hx
  clear ac h1 h2 pos q1
  obtain ⟨i, hi, q3⟩ := onP_elim (h3 m k c2 q2)
  clear Q1 h3 q2
  obtain ⟨⟨x', σ'⟩, hc, hq⟩ := onP_elim q3
  unfold asInt at hi
  split at hi
  · clear Q2 q3
    cases hi
    simp only [RepM, RepP] at r2
    obtain ⟨t, rfl⟩ := r2
    refine wpAny_pure ?_
    have n3 := At.slc n2.cond n2.st .none (.int i t) .none
    exact (pm_cut (X := X) (r := r) (env := env) (names := names) (Xc := Xc) G (slc_has a _ _ _ p) .none (.int i t) .none hc hq).next st (n2.trans n3 (n2.there st)) ⟨n3.rep n2.cond n2.st (n2'.rep n1.cond n1.st r1), Heap.IsSliceOf.new ..⟩ (fun a b c' as' s' n z_ hr hq => hk a b c' as' s' n hr hq) hx
  · clear G Q2 hc hk hq hx n1 n2 n2' q3 r1 r2 st x' z_ σ'
    cases hi
theorem sem_rev (G : X.Good) {a : Expr} {k p2 p3 p pos} {Q : MV → AS → Prop} {Q1 : MV → AS → Prop}
    (h1 : SemE X r env names Xc (eval a env) c Q1)
    (h3 : ∀ m c2, Q1 m c2 → onP (vCut c2.σ none none true m) fun q => Q q.1 ⟨c2.ρ, q.2⟩) : SemE X r env names Xc (eval (.Subscript a (.Slice none none (some (.UnaryOp .USub (.Constant (.int 1) k p2) p3)) p) pos) env) c Q := by
  intro A as s K E ac st _ hk hx
  refine Subscript_ (h1.next st (.refl ac st) trivial (fun v m c1 as1 s1 n1 z_ r1 q1 => ?_) hx)
  refine wpAny_Slice ?_
  simp only [evalPart_none]
  refine wpAny_pure (wpAny_pure ?_)
  rw [evalPart_some]
  have h2 : SemE X r env names Xc (eval (.UnaryOp .USub (.Constant (.int 1) k p2) p3) env) c1 fun mv c' => mv = mI (-1) ∧ c' = c1 := sem_neg (sem_int ⟨rfl, rfl⟩)
  refine h2.next st n1 trivial (fun w k c2 as2 s2 n2 n2' r2 q2 => ?_) hx
  clear ac h1 h2 pos
  obtain ⟨rfl, rfl⟩ := q2
  obtain ⟨⟨x', σ'⟩, hc, hq⟩ := onP_elim (h3 m _ q1)
  simp only [RepM, RepP] at r2
  clear h3 q1
  obtain ⟨t, rfl⟩ := r2
  have n3 := At.slc n2.cond n2.st .none .none (.int (-1) t)
  exact (pm_cut (X := X) (r := r) (env := env) (names := names) (Xc := Xc) G (slc_has a _ _ _ p) .none .none (.int (-1) t) hc hq).next st (n2.trans n3 (n2.there st)) ⟨n3.rep n2.cond n2.st (n2'.rep n1.cond n1.st r1), Heap.IsSliceOf.new ..⟩ (fun a b c' as' s' n z_ hr hq => hk a b c' as' s' n hr hq) hx
end
end Mine
namespace Mine
/-! ## attributes -/
structure ClsOK (X : Cx) (C : Addr) : Prop where
  ga : findIn X.K (.ref C) "__getattribute__" = some (some (.builtin "object.__getattribute__"))
  gt : findIn X.K (.ref C) "__getattr__" = some none
  sa : findIn X.K (.ref C) "__setattr__" = some (some (.builtin "object.__setattr__"))
  plain : plainOver X.K C = true
  has : hasDictIn X.K C = true
  own : ∀ k, hasA C k = true → findIn X.K (.ref C) (S k) = some none
  meth : ∀ k f, methOf C k = some f → f < 1000 ∧ findIn X.K (.ref C) (S k) = some (some (.ref f)) ∧ typeIn X.K (.ref f) = some (.type "function")
  keep : keepIn X.K (.ref C) = true
  makes : makesIn X.K C = true
  init : ∀ f, initOf C = some f → f < 1000 ∧ findIn X.K (.ref C) "__init__" = some (some (.ref f)) ∧ typeIn X.K (.ref f) = some (.type "function")
noncomputable def ClassesOK (X : Cx) : Prop := ∀ C, (C = 162 ∨ C = 280 ∨ C = 371) → ClsOK X C
noncomputable def AllL {α β : Type} (p : α → β → Prop) : List (α × β) → Prop := fun y1_ => match y1_ with
  | [] => True
  | q :: r => p q.1 q.2 ∧ AllL p r
theorem allL_get {α β : Type} [BEq α] [LawfulBEq α] {p : α → β → Prop} {a : α} {b : β} : ∀ {l : List (α × β)}, AllL p l → l.lookup a = some b → p a b := @fun y1_ y2_ y3_ => match y1_, y2_, y3_ with
  | [], z1_, e => by cases e
  | (x, y) :: r, h, e => by
    rw [List.lookup_cons] at e
    clear y2_ y3_
    cases hb : a == x with
    | true =>
      rw [hb] at e
      clear y1_
      cases e
      rw [eq_of_beq hb]
      exact h.1
    | false =>
      rw [hb] at e
      exact allL_get h.2 e
theorem initOf_cls {C f : Nat} (h : initOf C = some f) : C = 162 ∨ C = 280 ∨ C = 371 :=
  allL_get (p := fun C z_ => C = 162 ∨ C = 280 ∨ C = 371) (l := initL) ⟨.inl rfl, .inr (.inl rfl), .inr (.inr rfl), trivial⟩ h
theorem methOf_cls {C k f : Nat} (h : methOf C k = some f) : C = 162 ∨ C = 280 ∨ C = 371 :=
  .inr (allL_get (p := fun (q : Nat × Nat) _ => q.1 = 280 ∨ q.1 = 371) (l := methL) ⟨.inl rfl, .inl rfl, .inl rfl, .inl rfl, .inl rfl, .inl rfl, .inl rfl, .inr rfl, .inr rfl, .inr rfl, trivial⟩ h)
theorem hasA_cls {C k : Nat} (h : hasA C k = true) : C = 162 ∨ C = 280 ∨ C = 371 := by
  simp only [hasA, Bool.and_eq_true, Bool.or_eq_true, beq_iff_eq] at h
  exact or_assoc.mp h.1
theorem hasA_low {C k : Nat} (h : hasA C k = true) : k < nStr := by
  simp only [hasA, Bool.and_eq_true, Bool.or_eq_true, beq_iff_eq] at h
  rcases h.2 with ((rfl | rfl) | rfl) | rfl <;> decide
section
variable {X : Cx} {r : Nat} {env : Env} {names : Names} {Xc : Prop} {A : Around} {as as1 : List Addr} {s s1 : Shared} {c c1 : AS}

theorem repEs_getL {as : List Addr} {h : Heap} {k : Nat} (hk : k < nStr) : ∀ {des : List DictEntry} {es : List (Nat × MV)}, RepEs X as h des es →
    (match es.lookup k with | some mv => ∃ v, getL (S k) des = some (some v) ∧ RepM X as h v mv | none => getL (S k) des = some none)
  | [], [], z1_ => rfl
  | e' :: rr, (q, x) :: r', ⟨⟨hq, ⟨t, h2⟩, h3, h4⟩, h5⟩ => by
    have ih := repEs_getL hk h5
    have hs : e'.key.isStr (S k) = (S q == S k) := by rw [h2]; rfl
    have hf : e'.refKey = false := by unfold DictEntry.refKey; rw [h2]
    unfold getL at ih ⊢
    simp only [List.lookup_cons, List.find?_cons, hs, S_beq hq hk, List.any_cons, hf, Bool.false_or]
    by_cases e : k = q
    · clear h2 h3 h5 hf hk hq hs ih t
      subst e
      simp only [beq_self_eq_true]
      exact ⟨_, rfl, h4⟩
    · have e1 : (k == q) = false := beq_eq_false_iff_ne.mpr e
      have e2 : (q == k) = false := beq_eq_false_iff_ne.mpr (Ne.symm e)
      simp only [e1, e2]
      exact ih
theorem repEs_put {as : List Addr} {h : Heap} {k : Nat} (hk : k < nStr) {v : Value} {mv : MV} {t : Tok} (hv : RepM X as h v mv) : ∀ {des : List DictEntry} {es : List (Nat × MV)}, RepEs X as h des es →
    RepEs X as h (putL (S k) (PyData.keyHash X.w.params (S k)) (.str (S k) t) v des) (putEs k mv es)
  | [], [], z1_ => by
    exact ⟨⟨hk, ⟨t, rfl⟩, rfl, hv⟩, trivial⟩
  | e' :: rr, (q, x) :: r', ⟨⟨hq, ⟨u, h2⟩, h3, h4⟩, h5⟩ => by
    have hs : e'.key.isStr (S k) = (q == k) := by rw [h2]; exact S_beq hq hk
    simp only [putL, putEs, hs]
    by_cases e : q = k
    · clear h4 hk hs
      subst e
      simp only [beq_self_eq_true, if_true]
      exact ⟨⟨hq, ⟨u, h2⟩, h3, hv⟩, h5⟩
    · have e1 : (q == k) = false := beq_eq_false_iff_ne.mpr e
      simp only [e1, e, if_false, Bool.false_eq_true]
      exact ⟨⟨hq, ⟨u, h2⟩, h3, h4⟩, repEs_put hk hv h5⟩
theorem repEs_len {as : List Addr} {h : Heap} : ∀ {des : List DictEntry} {es : List (Nat × MV)}, RepEs X as h des es → des.length = es.length := @fun y1_ y2_ y3_ => match y1_, y2_, y3_ with
  | [], [], z1_ => rfl
  | e' :: rr, (q, x) :: r', ⟨z1_, h5⟩ => by rw [List.length_cons, List.length_cons, repEs_len h5]
theorem putL_len (name : Str) (hh : Int) (k v : Value) : ∀ des : List DictEntry, (putL name hh k v des).length ≤ des.length + 1 := fun y1_ => match y1_ with
  | [] => by simp [putL]
  | e :: rr => by
    simp only [putL]
    clear y1_
    split
    · simp
    · have := putL_len name hh k v rr
      exact Nat.succ_le_succ this
set_option tactic.hygienic true in
theorem handedIn_rep {as : List Addr} {h : Heap} {v : Value} {m : MV} (hr : RepM X as h v m) : handedIn v = true := by
  cases v <;> try rfl
  rename_i i
  cases m with
  | p x =>
    simp only [RepM] at hr
    clear as
    cases x with
    | con u => obtain ⟨rfl, e | ⟨b, e⟩⟩ := hr <;> cases e
    | int j => obtain ⟨t, e⟩ := hr; cases e
    | str k => obtain ⟨_, t, e⟩ := hr; cases e
    | any => obtain ⟨_, t, e⟩ := hr; cases e
    | scr => cases hr
    | cal k =>
      simp only [RepP] at hr
      unfold calV at hr
      split at hr <;> first | (cases hr; decide +kernel) | cases hr
    | fnc a => cases hr
    | cls a => cases hr
    | tup l => obtain ⟨a, vs, n, e, _⟩ := hr; cases e
  | loc i => obtain ⟨a, _, e⟩ := hr; cases e
  | mt l => obtain ⟨a, vs, n, e, _⟩ := hr; cases e

inductive InsAt (X : Cx) (as : List Addr) (h : Heap) (j C d : Nat) (es : List (Nat × MV)) (v : Value) : Prop
  | mk (x dx : Addr) (des : List DictEntry) (n : Nat) (h0 : v = .ref x) (h1 : as[j]? = some x) (h2 : as[d]? = some dx) (h3 : h.get? dx = some (dictOf des n)) (h4 : RepEs X as h des es) (h5 : InstAt h x (instObj C dx) C (some (dictOf des n)))
/-- what a class of the text has made, in the store -/
theorem St.inst (st : St X env names c as s.heap) {j C d : Nat} {es : List (Nat × MV)} {v : Value} (e : c.σ[j]? = some (.inst C d)) (e' : c.σ[d]? = some (.dct es)) (hr : RepM X as s.heap v (.loc j)) :
    InsAt X as s.heap j C d es v := by
  simp only [RepM] at hr
  obtain ⟨x, hx, rfl⟩ := hr
  obtain ⟨o, ob, h1, h2, h3, h4⟩ := st.store.at hx
  rw [e] at h1
  clear e h2
  cases h1
  obtain ⟨dx, hd, rfl⟩ := h4
  obtain ⟨o', ob', k1, k2, k3, k4⟩ := st.store.at hd
  rw [e'] at k1
  clear e' k2 st
  cases k1
  obtain ⟨des, n, rfl, hr⟩ := k4
  exact ⟨x, dx, des, n, rfl, hx, hd, k3, hr, ⟨h3, rfl, rfl, k3⟩⟩
theorem noGet_none {K : Frag} : noGet K none = true := rfl
set_option tactic.hygienic true in
theorem pm_get (G : X.Good) (CC : ClassesOK X) {k : Nat} {v : Value} {a m : MV} {expr : Bool} {Q : MV → AS → Prop} (hv : vGetA c.σ k a = some m) (hq : Q m c) :
    SemP X r env names Xc (fun as h => RepM X as h v a) (RV X) (getAttr v (S k) expr) c Q := by
  intro A as s K E ac st hr hk hx
  unfold vGetA at hv
  split at hv
  · rename_i j
    split at hv
    · rename_i C d hj
      split at hv
      · rename_i es hd
        split at hv
        · rename_i hA
          clear hx
          have q_ := st.inst hj hd hr
          clear hd hj hr
          obtain ⟨x, dx, des, n, rfl, _, _, _, hes, I⟩ := q_
          have CO := CC C (hasA_cls hA)
          have hg := repEs_getL (hasA_low hA) hes
          rw [hv] at hg
          clear CC hes hv
          obtain ⟨u, hu, hru⟩ := hg
          exact get_value (st.base.keepK G) I CO.ga (findObj_own CO.has (CO.own k hA) noGet_none hu) (handedIn_rep hru) (hk _ _ c as _ (.tok ac st _) hru hq)
        · clear CC G ac hd hj hk hq hr hx j st
          cases hv
      · clear CC G ac hj hk hq hr hx j st
        cases hv
    · clear CC G ac hk hq hr hx st
      cases hv
  · clear CC G ac hk hq hr hx st
    cases hv
end
section
variable {prog : Program} {w : World} {A : Around} {R : Result → Shared → Prop} {s : Shared} {K : Frag}
set_option tactic.hygienic true in
theorem osa_mine {x C dx : Addr} {ox : Obj} {name : Str} {tk : Tok} {v : Value} {es : List DictEntry} {n : Nat} (X : K.In s.heap) (I : InstAt s.heap x ox C (some (dictOf es n))) (hd : ox.dict = some dx)
    (hp : plainOver K C = true) (ht : takerIn K C name = some none) (hh : hasDictIn K C = true) (hl : (getL name es).isSome = true) (hz : (putL name (PyData.keyHash w.params name) (.str name s.toks) v es).length ≤ 1000)
    (h : R (.ok (.ret .none)) { s with heap := s.heap.update dx (Obj.putName name (PyData.keyHash w.params name) (.str name s.toks) v), toks := s.toks + 1 }) :
    codeAny (model prog w) A (.call (.builtin "object.__setattr__") ⟨[.ref x, .str name tk, v], []⟩) R s := by
  refine osa_open X I hp ht fun b => ?_
  clear hp ht
  obtain ⟨cd, hc, hd'⟩ := any_some hh
  clear hh
  obtain ⟨hx, hcl, hn, hD⟩ := I
  clear hn
  obtain ⟨oc, odi, oda, osl⟩ := ox
  dsimp only at hcl hd
  subst hcl hd
  have D : s.heap.get? dx = some (dictOf es n) := hD
  have D' : (s.heap.update dx (Obj.putName name (PyData.keyHash w.params name) (.str name s.toks) v)).get? dx = some (dictOf (putL name (PyData.keyHash w.params name) (.str name s.toks) v es) (putN name es n)) := by
    rw [← putName_dict]
    exact Heap.get?_update_self _ D (by rw [putName_dict]; rfl)
  refine wpAny_bind (wpAny_pure (wpAny_bind (wpAny_bind (wpAny_loadPart hx (wpAny_bind ((looks_clsIn X hc).here ?_))))))
  rw [hd']
  refine wpAny_pure (a := some dx) (wpAny_bind (wpAny_pure (wpAny_bind ?_)))
  unfold nsSet
  refine wpAny_bind (wpAny_bind (wpAny_askSetting (wpAny_pure (wpAny_bind (wpAny_mkText (wpAny_bind (wpAny_loadPart D ?_)))))))
  dsimp only
  have cc : (!es.toArray.any (·.key.isStr name) && es.toArray.any (·.refKey)) = false := by
    rw [List.any_toArray, List.any_toArray]
    unfold getL at hl
    split at hl
    · rename_i en he
      rw [List.any_eq_true.mpr ⟨en, List.mem_of_find?_eq_some he, List.find?_some he⟩]; rfl
    · split at hl
      · clear D D' X b h hD hc hd' hx hz n oda osl tk v x
        cases hl
      · rename_i z; rw [Bool.not_eq_true] at z; rw [z, Bool.and_false]
  rw [aRefKeyMayBeTheName_at, cc]
  refine wpAny_updatePart D ?_
  refine wpAny_bind (wpAny_lookBehind D' (by exact pastItsLine_dict (by rw [List.size_toArray, sizeLine_eq]; exact Nat.le_trans hz (by decide))) ?_)
  exact wpAny_pure h
end
section
variable {X : Cx} {r : Nat} {env : Env} {names : Names} {Xc : Prop} {A : Around} {as as1 : List Addr} {s s1 : Shared} {c c1 : AS}
set_option tactic.hygienic true in
theorem pm_set (G : X.Good) (CC : ClassesOK X) {k : Nat} {v w : Value} {a b : MV} {σ' : List MO} {Q : Unit → AS → Prop} (hv : vSetA c.σ k b a = some σ') (hq : Q () ⟨c.ρ, σ'⟩) :
    SemP X r env names Xc (P2 X v w a b) RU (setAttr v (S k) w) c Q := by
  intro A as s K E ac st ⟨hr, hw⟩ hk hx
  unfold vSetA at hv
  split at hv
  · rename_i j
    split at hv
    · rename_i C d hj
      split at hv
      · rename_i es hd
        split at hv
        · rename_i hA
          clear hx
          cases hv
          have q_ := st.inst hj hd hr
          clear hd hj hr
          obtain ⟨x, dx, des, n, rfl, _, hdx, ho, hes, I⟩ := q_
          have CO := CC C (hasA_cls hA.2)
          have hg := repEs_getL (hasA_low hA.2) hes
          have hl : (getL (S k) des).isSome = true := by
            clear CC CO E G I ac hA hdx hes hk ho hq hw n st w
            cases q : List.lookup k es with
            | some mv => rw [q] at hg; obtain ⟨u, e, _⟩ := hg; rw [e]; rfl
            | none => rw [q] at hg; rw [hg]; rfl
          have ht : takerIn X.K C (S k) = some none := by unfold takerIn; rw [CO.own k hA.2]; rfl
          refine set_plain (st.base.keepK G) I CO.sa (osa_mine (s := { s with toks := s.toks + 1 }) (st.base.keepK G) I rfl CO.plain ht CO.has hl ?_ ?_)
          · have h1 := putL_len (S k) (PyData.keyHash X.w.params (S k)) (.str (S k) (s.toks + 1)) w des
            have h2 := repEs_len hes
            have h3 := hA.1
            exact Nat.le_trans h1 (by rw [h2]; exact Nat.le_trans (Nat.succ_le_succ h3) (by decide))
          · have hf : Obj.putName (S k) (PyData.keyHash X.w.params (S k)) (.str (S k) (s.toks + 1)) w (dictOf des n) = dictOf (putL (S k) (PyData.keyHash X.w.params (S k)) (.str (S k) (s.toks + 1)) w des) (putN (S k) des n) := putName_dict ..
            have kk : TKeep s.heap (s.heap.update dx (Obj.putName (S k) (PyData.keyHash X.w.params (S k)) (.str (S k) (s.toks + 1)) w)) := tkeep_upd ho (frObj_notImm ⟨_, _, rfl⟩)
            exact hk () () _ as _ (At.upd G ac st hdx ho (by rw [hf]; rfl) (by rw [hf]; exact ⟨_, _, rfl, (repEs_put (hasA_low hA.2) hw hes).keep kk⟩)) trivial hq
        · clear CC G ac hd hj hk hq hr hw hx j st
          cases hv
      · clear CC G ac hj hk hq hr hw hx j st
        cases hv
    · clear CC G ac hk hq hr hw hx st
      cases hv
  · clear CC G ac hk hq hr hw hx st
    cases hv
theorem attrBase_plain {o : Expr} (h : isBareCall o = false) (a : Str) (env : Env) (w : Sem Value) : attributeBase o a env w = w := by
  unfold attributeBase
  split
  · simp [isBareCall] at h
  · rfl
theorem sem_attr (G : X.Good) (CC : ClassesOK X) {o : Expr} {x : Str} {k : Nat} (hx' : codeOf x = some k) (hb : isBareCall o = false) {pos} {Q : MV → AS → Prop} (h : SemE X r env names Xc (eval o env) c fun v c₁ => onP (vGetA c₁.σ k v) fun q => Q q c₁) :
    SemE X r env names Xc (eval (.Attribute o x pos) env) c Q := by
  obtain ⟨hl, he, _⟩ := List.findIdx?_eq_some_iff_getElem.mp hx'
  have ex : x = S k := by rw [S_at hl, ← eq_of_beq he]
  clear he hx'
  subst ex
  refine sem1 (op := fun v => do let r ← holding [v] (getAttr v (S k) true); letTemporaryGo o v r; pure r) (fun A K E s h => ?_) h fun v m c1 q => ?_
  · rw [arm_eval_Attribute, attrBase_plain hb]
    exact wpAny_bind (wpAny_mono h (fun v s' h' => wpAny_bind (wpAny_standAt h')) fun z_ z_ e => e)
  · clear h hb pos
    obtain ⟨u, hu, hq⟩ := onP_elim q
    intro A as s K E ac st hp hk hx
    exact wpAny_bind (wpAny_holding (pm_get (r := r) (Xc := Xc) G CC hu hq A as s _ E ac st hp (fun a b c' as' s' n hr hq' => wpAny_bind (wpAny_letTemporaryGo (wpAny_pure (hk a b c' as' s' n hr hq')))) hx))
end
end Mine
namespace Mine
section
variable {X : Cx} {r : Nat} {env : Env} {names : Names} {Xc : Prop} {A : Around} {as as1 : List Addr} {s s1 : Shared} {c c1 : AS}
/-! ## built-ins -/
theorem bools_of {h : Heap} : ∀ {vs : List Value} {l : List PV} {b : Bool}, RepPs X h vs l → allB l = some b → ∃ bs : List Bool, vs = bs.map .bool ∧ bs.all id = b := @fun y1_ y2_ y3_ y4_ y5_ => match y1_, y2_, y3_, y4_, y5_ with
  | vs, [], b, r, e => by
    simp only [RepPs] at r
    simp only [allB, Option.some.injEq] at e
    exact ⟨[], r, e⟩
  | vs, .con (.bool x) :: l, b, r, e => by
    simp only [RepPs, RepP] at r
    clear y4_ y5_
    obtain ⟨v, q, rfl, ⟨rfl, _⟩, h2⟩ := r
    simp only [allB, Option.map_eq_some_iff] at e
    clear y1_ y2_ y3_
    obtain ⟨b', e', rfl⟩ := e
    have q_ := bools_of h2 e'
    clear bools_of e' h2 l
    obtain ⟨bs, rfl, rfl⟩ := q_
    exact ⟨x :: bs, rfl, by simp⟩
  | vs, .con .none :: l, b, r, e => by simp [allB] at e
  | vs, .con .ellipsis :: l, b, r, e => by simp [allB] at e
  | vs, .con .notImplemented :: l, b, r, e => by simp [allB] at e
  | vs, .con (.int z1_ z2_) :: l, b, r, e => by simp [allB] at e
  | vs, .con (.float z1_ z2_) :: l, b, r, e => by simp [allB] at e
  | vs, .con (.str z1_ z2_) :: l, b, r, e => by simp [allB] at e
  | vs, .con (.bytes z1_ z2_) :: l, b, r, e => by simp [allB] at e
  | vs, .con (.type z1_) :: l, b, r, e => by simp [allB] at e
  | vs, .con (.builtin z1_) :: l, b, r, e => by simp [allB] at e
  | vs, .con (.ref z1_) :: l, b, r, e => by simp [allB] at e
  | vs, .int z1_ :: l, b, r, e => by simp [allB] at e
  | vs, .str z1_ :: l, b, r, e => by simp [allB] at e
  | vs, .any :: l, b, r, e => by simp [allB] at e
  | vs, .scr :: l, b, r, e => by simp [allB] at e
  | vs, .cal z1_ :: l, b, r, e => by simp [allB] at e
  | vs, .fnc z1_ :: l, b, r, e => by simp [allB] at e
  | vs, .cls z1_ :: l, b, r, e => by simp [allB] at e
  | vs, .tup z1_ :: l, b, r, e => by simp [allB] at e
theorem one_of {as : List Addr} {h : Heap} {vs : List Value} {m : MV} (r : RepMs X as h vs [m]) : ∃ v, vs = [v] ∧ RepM X as h v m := by
  simp only [RepMs] at r
  obtain ⟨v, q, rfl, h1, rfl⟩ := r
  exact ⟨v, rfl, h1⟩
theorem two_of {as : List Addr} {h : Heap} {vs : List Value} {m k : MV} (r : RepMs X as h vs [m, k]) : ∃ v w, vs = [v, w] ∧ RepM X as h v m ∧ RepM X as h w k := by
  simp only [RepMs] at r
  obtain ⟨v, q, rfl, h1, w, q', rfl, h2, rfl⟩ := r
  exact ⟨v, w, rfl, h1, h2⟩
/-- a new object of the store behind a grown heap -/
theorem At.newIn (ac : ACond X A r as s.heap) (st : St X env names c as s.heap) {h' : Heap} {D : Addr} {o : Obj} {mo : MO} {tk : Nat} (k : ∀ b o, s.heap.get? b = some o → h'.get? b = some o) (hD : h'.get? D = some o) (hf : s.heap.get? D = none) (hl : X.g1.objs.size ≤ D)
    (hr : RepO X (as ++ [D]) h' o mo) : At X r env names A as s ⟨c.ρ, c.σ ++ [mo]⟩ (as ++ [D]) { s with heap := h', toks := tk } := by
  have n := At.grow (tk := tk) ac st k
  have hnot : D ∉ as := fun hm => by
    clear ac hD hl hr k mo n tk
    obtain ⟨i, o, ob, _, _, _, e, _⟩ := st.store.mem hm
    rw [hf] at e
    clear h' hf hm st
    cases e
  have hfr : ∀ b ∈ frAddrs A, b ≠ D := fun b hb q => by
    clear hD hl hnot hr k mo n st tk
    obtain ⟨o, e, _⟩ := ac.frObj hb
    rw [q, hf] at e
    clear ac h' hb hf q
    cases e
  clear k
  obtain ⟨m, F⟩ := n.st.frame
  obtain ⟨m₀, F₀⟩ := st.frame
  have hloc : env.locals ∉ [D] := fun q => by
    clear F ac hD hfr hl hnot hr m mo n st tk
    obtain ⟨o, e, _⟩ := F₀.obj
    rw [List.mem_singleton.mp q, hf] at e
    clear F₀ h' hf m₀ q
    cases e
  refine ⟨⟨n.cond.handled, n.cond.depth, n.cond.units, n.cond.frames, fun b hb q => (List.mem_append.mp q).elim (ac.off b hb) (fun q => hfr b hb (List.mem_singleton.mp q)), ac.high⟩, ⟨n.st.base, ⟨m, F.more hloc⟩, ?_⟩, n.kp, ⟨[D], rfl, fun x hx => by rw [List.mem_singleton.mp hx]; exact hf⟩, n.same⟩
  have S := n.st.store
  refine ⟨by simp [S.1], ?_, fun i x e => ?_⟩
  · refine List.nodup_append.mpr ⟨S.2.1, by simp, fun a ha b hb => ?_⟩
    rw [List.mem_singleton.mp hb]
    exact fun q => hnot (q ▸ ha)
  · by_cases hi : i < c.σ.length
    · simp only [List.getElem?_append_left hi] at e
      clear F F₀ ac hD hf hfr hl hloc hnot hr m mo m₀ n o st
      obtain ⟨a, ob, h1, h2, h3, h4⟩ := S.2.2 i x e
      exact ⟨a, ob, by rw [List.getElem?_append_left (by rw [S.1]; exact hi)]; exact h1, h2, h3, h4.more⟩
    · have hi' : i = c.σ.length := by
        have := (List.getElem?_eq_some_iff.mp e).1
        rw [List.length_append] at this
        exact Nat.le_antisymm (Nat.le_of_lt_succ this) (Nat.not_lt.mp hi)
      clear F F₀ S ac hf hfr hi hloc hnot m m₀ n
      subst hi'
      rw [List.getElem?_concat_length] at e
      cases e
      exact ⟨D, o, by rw [← st.store.1, List.getElem?_concat_length], hl, hD, hr⟩
theorem repLast {as : List Addr} {σ : List MO} {h : Heap} {D : Addr} (e : as.length = σ.length) : RepM X (as ++ [D]) h (.ref D) (.loc σ.length) := by
  simp only [RepM]
  exact ⟨_, by rw [← e, List.getElem?_concat_length], rfl⟩
theorem Heap.none_size (h : Heap) : h.get? h.objs.size = none := by
  cases q : h.get? h.objs.size with
  | none => rfl
  | some o' => exact absurd (Heap.lt_size q) (Nat.lt_irrefl _)
theorem all_bools' {l : Addr} {bs : List Bool} {Q : Value → Shared → Prop} {E : Value → Shared → Prop} (hh : A.handled = none) (hl : s.heap.IsList l (bs.map Value.bool).toArray)
    (h : ∀ h' tk, (∀ b o, s.heap.get? b = some o → h'.get? b = some o) → Q (.bool (bs.all id)) { s with heap := h', toks := tk }) : wpAny (model X.prog X.w) A (call (.builtin "all") [.ref l]) Q E s := by
  have hlt : l < s.heap.objs.size := by obtain ⟨_, e, _⟩ := hl; exact Heap.lt_size e
  refine call_all_walk (wpAny_pyIter_list hl ?_)
  refine ⟨s.heap.objs.size, [s.heap.objs.size, l], [s.heap.objs.size], (bs.map Value.bool).toArray.size, _, _, fun i => (bs[i]?).getD true, rfl, Walks.list (A := A.in1) hh _ l (Nat.ne_of_lt hlt) (bs.map Value.bool).toArray,
    ⟨⟨_, Heap.get?_push_size _ rfl, rfl, rfl⟩, hl.push _⟩, fun i v s' Q' E' hP hQ => ?_, fun h' tk hk => ?_⟩
  · have hP' : (bs.map Value.bool)[i]? = some v := by simpa using hP
    rw [List.getElem?_map, Option.map_eq_some_iff] at hP'
    clear E h hP hh hl hlt l
    obtain ⟨b, e, rfl⟩ := hP'
    simp only [e, Option.getD_some] at hQ
    exact wpAny_truthy_bool hQ
  · have e : ((List.range (bs.map Value.bool).toArray.size).all fun i => (bs[i]?).getD true) = bs.all id := by
      rw [List.size_toArray, List.length_map]; exact LSm.range_all bs
    rw [e]
    exact h h' tk (LSm.kept_iter hk)
theorem ifO_inv {α : Type} {c : Prop} [Decidable c] {a b : α} (h : ifO c a = some b) : c ∧ a = b := if_some h
theorem asBool_inv {v : MV} {b : Bool} (h : asBool v = some b) : v = .p (.con (.bool b)) := by
  cases v with
  | p x =>
    cases x with
    | con u => cases u <;> cases h <;> rfl
    | _ => cases h
  | _ => cases h
theorem asScr_inv {v : MV} {u : Unit} (h : asScr v = some u) : v = .p .scr := by
  cases v with
  | p x => cases x <;> cases h <;> rfl
  | _ => cases h
theorem isNil_inv {α : Type} {l : List α} {u : Unit} (h : isNil l = some u) : l = [] := by
  cases l with
  | nil => rfl
  | cons => cases h
section
variable {v : Value} {a m : MV} {σ' : List MO} {Q : MV → AS → Prop}
theorem pm_tuple (G : X.Good) (hv : pTuple c.σ a = some (m, σ')) (hq : Q m ⟨c.ρ, σ'⟩) : SemP X r env names Xc (fun as h => RepM X as h v a) (RV X) (call (.type "tuple") [v]) c Q := by
  intro A as s K E ac st h1 hk hx
  clear G hx
  have q_ := orO_inv hv
  clear hv
  rcases q_ with h | h
  · obtain ⟨l, hl, e⟩ := thenO_inv h
    clear h
    cases e
    rw [asTup_inv hl] at h1
    have h1' := h1
    simp only [RepM, RepP] at h1
    clear Xc hl
    obtain ⟨a, ws, n, rfl, ho, hr1⟩ := h1
    exact call_tuple_same (tupO_is ho) (hk _ _ c as s (.refl ac st) h1' hq)
  · obtain ⟨l, hl, e⟩ := thenO_inv h
    clear h
    obtain ⟨hl2, e⟩ := ifO_inv e
    cases e
    clear Xc
    have q_ := lstAt_inv hl
    clear hl
    obtain ⟨j, rfl, hj⟩ := q_
    have q_ := st.lst hj h1
    clear h1 hj
    obtain ⟨a, ws, n, rfl, _, _, ho, hr1⟩ := q_
    refine call_tuple_list (lstO_is ho) (fun h' kk => ?_) (by simp only [List.size_toArray, hr1.len]; exact Nat.le_trans hl2 (by decide))
    refine hk _ _ c as _ (.grow (tk := s.toks) ac st fun b o e => Heap.get?_push_of_some _ (kk b o e)) ?_ hq
    simp only [RepM, RepP]
    exact ⟨_, ws, 0, rfl, Heap.get?_push_size _ rfl, hr1.keep (tkeep_all fun b o e => Heap.get?_push_of_some _ (kk b o e))⟩
theorem pm_list (G : X.Good) (hv : pList c.σ a = some (m, σ')) (hq : Q m ⟨c.ρ, σ'⟩) : SemP X r env names Xc (fun as h => RepM X as h v a) (RV X) (call (.type "list") [v]) c Q := by
  intro A as s K E ac st h1 hk hx
  have hs := st.low
  clear G hx
  have q_ := orO_inv hv
  clear hv
  rcases q_ with h | h
  · obtain ⟨l, hl, e⟩ := thenO_inv h
    clear h
    obtain ⟨hl2, e⟩ := ifO_inv e
    cases e
    rw [asTup_inv hl] at h1
    simp only [RepM, RepP] at h1
    clear Xc e hl
    obtain ⟨a, ws, n, rfl, ho, hr1⟩ := h1
    refine call_list_seq a (.inr rfl) ho rfl rfl (fun h' c' kk hD => ?_) (by simp only [List.size_toArray, hr1.len]; exact Nat.le_trans hl2 (by decide))
    exact hk _ _ _ _ _ (.newIn (mo := .lst l) (tk := s.toks) ac st kk hD (Heap.none_size _) hs ⟨ws, c', rfl, hr1.keep (tkeep_all kk)⟩) (repLast st.store.1) hq
  · obtain ⟨l, hl, e⟩ := thenO_inv h
    clear h
    obtain ⟨hl2, e⟩ := ifO_inv e
    cases e
    clear Xc e
    have q_ := lstAt_inv hl
    clear hl
    obtain ⟨j, rfl, hj⟩ := q_
    have q_ := st.lst hj h1
    clear h1 hj
    obtain ⟨a, ws, n, rfl, _, _, ho, hr1⟩ := q_
    refine call_list_seq a (.inl rfl) ho rfl rfl (fun h' c' kk hD => ?_) (by simp only [List.size_toArray, hr1.len]; exact Nat.le_trans hl2 (by decide))
    exact hk _ _ _ _ _ (.newIn (mo := .lst l) (tk := s.toks) ac st kk hD (Heap.none_size _) hs ⟨ws, c', rfl, hr1.keep (tkeep_all kk)⟩) (repLast st.store.1) hq
theorem pm_dict (G : X.Good) (hv : pDict c.σ a = some (m, σ')) (hq : Q m ⟨c.ρ, σ'⟩) : SemP X r env names Xc (fun as h => RepM X as h v a) (RV X) (call (.type "dict") [v]) c Q := by
  intro A as s K E ac st h1 hk hx
  have hs := st.low
  clear hx
  obtain ⟨u, hu, e⟩ := thenO_inv hv
  clear hv
  cases e
  clear Xc
  obtain ⟨es, he, hn⟩ := thenO_inv hu
  rw [isNil_inv hn] at he
  clear hn hu u
  obtain ⟨j, rfl, hj⟩ := dctAt_inv he
  have q_ := st.dct hj h1
  clear h1 hj
  obtain ⟨a, des, n, rfl, _, hlo, ho, hr1⟩ := q_
  have hnil : des = [] := List.length_eq_zero_iff.mp (repEs_len hr1)
  clear h1 hr1
  subst hnil
  have hD : s.heap.DictOf (PySem.strKind X.prog X.w) a [] := ⟨_, #[], n, ho, ⟨rfl, rfl, rfl⟩, rfl, (fun e he => by simp at he), .nil, List.nodup_nil⟩
  refine PySem.kt_call_dict (G.mods hlo) hD (Nat.zero_le _) fun h' hm hs' => ?_
  clear E G hD he hlo ho j n
  obtain ⟨o, es, ep, e1, ⟨e2, e3, e4⟩, e5, e6, e7, e8⟩ := hm
  have hkk : ∀ b o, s.heap.get? b = some o → h'.get? b = some o := fun b o e => (hs'.2 b (fun q => by subst q; rw [Heap.none_size] at e; cases e)).trans (Heap.get?_push_of_some _ e)
  have ees : es = #[] := by
    have := e7.length
    simpa using this
  clear a e6 e7 e8 hs'
  subst ees
  have eo : o = dictOf [] ep := by
    clear ac e1 es hk hkk hq hs r st
    obtain ⟨c1, d1, t1, s1⟩ := o
    dsimp only at e2 e3 e4 e5
    clear A K Q X as c env h' names s
    subst e2 e3 e4 e5
    rfl
  clear e2 e3 e4 e5 es
  subst eo
  exact hk _ _ _ _ _ (.newIn (mo := .dct []) (tk := s.toks) ac st hkk e1 (Heap.none_size _) hs ⟨[], ep, rfl, trivial⟩) (repLast st.store.1) hq
theorem pm_int (G : X.Good) (hv : pInt c.σ a = some (m, σ')) (hq : Q m ⟨c.ρ, σ'⟩) : SemP X r env names Xc (fun as h => RepM X as h v a) (RV X) (call (.type "int") [v]) c Q := by
  intro A as s K E ac st h1 hk hx
  clear G hx
  obtain ⟨b, hb, e⟩ := thenO_inv hv
  clear hv
  cases e
  rw [asBool_inv hb] at h1
  simp only [RepM, RepP] at h1
  clear Xc hb
  obtain ⟨rfl, _⟩ := h1
  exact call_int_bool (hk _ _ c as _ (.tok ac st _) (by simp only [RepM, RepP]; exact ⟨_, rfl⟩) hq)
theorem pm_len (G : X.Good) (hv : pLen X.ns c.σ a = some (m, σ')) (hq : Q m ⟨c.ρ, σ'⟩) : SemP X r env names Xc (fun as h => RepM X as h v a) (RV X) (call (.builtin "len") [v]) c Q := by
  intro A as s K E ac st h1 hk hx
  clear hx
  have q_ := orO_inv hv
  clear hv
  rcases q_ with h | h
  · clear G
    obtain ⟨l, hl, e⟩ := thenO_inv h
    clear h
    obtain ⟨hl2, e⟩ := ifO_inv e
    cases e
    rw [asTup_inv hl] at h1
    simp only [RepM, RepP] at h1
    clear Xc e hl
    obtain ⟨a, ws, n, rfl, ho, hr1⟩ := h1
    refine PyProof.Rows.len_tuple (tupO_is ho) (by rw [List.size_toArray, hr1.len]; exact Int.lt_of_le_of_lt (Int.ofNat_le.mpr hl2) (by decide)) ?_
    exact hk _ _ c as _ (.tok ac st _) (by simp only [RepM, RepP, List.size_toArray, hr1.len]; exact ⟨_, rfl⟩) hq
  · rcases orO_inv h with h | h
    · clear G
      obtain ⟨l, hl, e⟩ := thenO_inv h
      clear h
      obtain ⟨hl2, e⟩ := ifO_inv e
      clear h
      cases e
      clear Xc e
      have q_ := lstAt_inv hl
      clear hl
      obtain ⟨j, rfl, hj⟩ := q_
      have q_ := st.lst hj h1
      clear h1 hj
      obtain ⟨a, ws, n, rfl, _, _, ho, hr1⟩ := q_
      refine Calls.call_len_list (lstO_is ho) (by rw [List.size_toArray, hr1.len]; exact Int.lt_of_le_of_lt (Int.ofNat_le.mpr hl2) (by decide)) ?_
      exact hk _ _ c as _ (.tok ac st _) (by simp only [RepM, RepP, List.size_toArray, hr1.len]; exact ⟨_, rfl⟩) hq
    · obtain ⟨u, hu, e⟩ := thenO_inv h
      clear h
      cases e
      rw [asScr_inv hu] at h1
      simp only [RepM, RepP] at h1
      clear Xc h hu u
      subst h1
      clear a
      obtain ⟨ws, hl, hi⟩ := st.scr G
      refine Calls.call_len_list hl (by have hl' := G.few; simp only [List.size_toArray, hi.length]; omega) ?_
      exact hk _ _ c as _ (.tok ac st _) (by simp only [RepM, RepP, List.size_toArray, hi.length]; exact ⟨_, rfl⟩) hq
theorem pm_all (G : X.Good) (hv : pAll c.σ a = some (m, σ')) (hq : Q m ⟨c.ρ, σ'⟩) : SemP X r env names Xc (fun as h => RepM X as h v a) (RV X) (call (.builtin "all") [v]) c Q := by
  intro A as s K E ac st h1 hk hx
  clear G hx
  obtain ⟨b, hb, e⟩ := thenO_inv hv
  clear hv
  cases e
  clear Xc
  obtain ⟨l, hl, hb2⟩ := thenO_inv hb
  clear hb
  have q_ := lstAt_inv hl
  clear hl
  obtain ⟨j, rfl, hj⟩ := q_
  have q_ := st.lst hj h1
  clear h1 hj
  obtain ⟨a, ws, n, rfl, _, _, ho, hr1⟩ := q_
  clear h1 j
  have q_ := bools_of hr1 hb2
  clear hb2 hr1 l
  obtain ⟨bs, rfl, hbs⟩ := q_
  subst hbs
  exact all_bools' ac.handled (lstO_is ho) fun h' tk kk => hk _ _ c as _ (.grow (tk := tk) ac st kk) .bool hq
theorem pm_two {w : Value} {b : MV} {k : Nat} (G : X.Good) (hv : vPrim X.ns c.σ k [a, b] = some (m, σ')) {f : Value} (hc : calV k = some f) (hq : Q m ⟨c.ρ, σ'⟩) : SemP X r env names Xc (fun as h => RepM X as h v a ∧ RepM X as h w b) (RV X) (call f [v, w]) c Q := by
  intro A as s K E ac st ⟨h1, h2⟩ hk hx
  by_cases h6 : k = 6
  · clear G hx
    subst h6
    cases hc
    have q_ := binI_rep hv h1 h2
    clear h1 h2 hv
    obtain ⟨i, j, t1, t2, q, rfl, rfl, e, rfl, rfl⟩ := q_
    clear Xc a b
    cases e
    refine max_two_ints ac.handled fun h' tk kk => ?_
    have : (if j > i then Value.int j t2 else Value.int i t1) = .int (max i j) (if j > i then t2 else t1) := by
      by_cases hab : j > i
      · rw [if_pos hab, if_pos hab, Int.max_eq_right (Int.le_of_lt hab)]
      · rw [if_neg hab, if_neg hab, Int.max_eq_left (Int.not_lt.mp hab)]
    rw [this]
    exact hk _ _ c as _ (.grow (tk := tk) ac st kk) (by simp only [RepM, RepP]; exact ⟨_, rfl⟩) hq
  · by_cases h7 : k = 7
    · clear G h6 hx
      subst h7
      cases hc
      have q_ := binI_rep hv h1 h2
      clear h1 h2 hv
      obtain ⟨i, j, t1, t2, q, rfl, rfl, e, rfl, rfl⟩ := q_
      clear Xc a b
      cases e
      refine min_two_ints ac.handled fun h' tk kk => ?_
      have : (if j < i then Value.int j t2 else Value.int i t1) = .int (min i j) (if j < i then t2 else t1) := by
        by_cases hab : j < i
        · rw [if_pos hab, if_pos hab, Int.min_eq_right (Int.le_of_lt hab)]
        · rw [if_neg hab, if_neg hab, Int.min_eq_left (Int.not_lt.mp hab)]
      rw [this]
      exact hk _ _ c as _ (.grow (tk := tk) ac st kk) (by simp only [RepM, RepP]; exact ⟨_, rfl⟩) hq
    · have hv : (if k = 6 then binI c.σ (fun a b => some (max a b)) a b else if k = 7 then binI c.σ (fun a b => some (min a b)) a b else none) = some (m, σ') := hv
      rw [if_neg h6, if_neg h7] at hv
      clear G ac h1 h2 h6 h7 hc hk hq hx st
      cases hv
end
theorem pm_prim (G : X.Good) {k : Nat} {v : Value} {vs : List Value} {ms : List MV} {m : MV} {σ' : List MO} {Q : MV → AS → Prop} (hc : calV k = some v) (hv : vPrim X.ns c.σ k ms = some (m, σ')) (hq : Q m ⟨c.ρ, σ'⟩) :
    SemP X r env names Xc (fun as h => RepMs X as h vs ms) (RV X) (call v vs) c Q := by
  cases ms with
  | nil => cases hv
  | cons a ms =>
    cases ms with
    | nil =>
      have key : ∀ {f : Value}, calV k = some f → (∀ v : Value, SemP X r env names Xc (fun as h => RepM X as h v a) (RV X) (call f [v]) c Q) → SemP X r env names Xc (fun as h => RepMs X as h vs [a]) (RV X) (call v vs) c Q := fun hc' H A as s K E ac st hr hk hx => by
        rw [hc] at hc'
        clear G hc hq hv k m σ'
        cases hc'
        have q_ := one_of hr
        clear hr
        obtain ⟨v, rfl, h1⟩ := q_
        exact H v A as s K E ac st h1 hk hx
      clear hc
      rcases k with _ | _ | _ | _ | _ | _ | k
      · exact key rfl fun v => pm_tuple G hv hq
      · exact key rfl fun v => pm_list G hv hq
      · exact key rfl fun v => pm_dict G hv hq
      · exact key rfl fun v => pm_int G hv hq
      · exact key rfl fun v => pm_len G hv hq
      · exact key rfl fun v => pm_all G hv hq
      · clear G hq key
        cases hv
    | cons b ms =>
      cases ms with
      | nil =>
        intro A as s K E ac st hr hk hx
        have q_ := two_of hr
        clear hr
        obtain ⟨v, w, rfl, h1, h2⟩ := q_
        exact pm_two G hv hc hq A as s K E ac st ⟨h1, h2⟩ hk hx
      | cons => cases hv
end
end Mine
namespace Mine
/-! ## calls -/
section
variable {M : Model} {A : Around} {E : Value → Shared → Prop} {s : Shared} {env : Env}
theorem evalArgs_gen {f : Value} {args : List (Bool × Sem Value)} {Q : Args → Shared → Prop} (hp : args.any (·.1) = false) (h : wpAny M A (spliced args) (fun vs s' => Q ⟨vs, []⟩ s') E s) : wpAny M A (evalArgs f true args []) Q E s := by
  match args, hp with
  | [], z1_ =>
    unfold evalArgs
    show wpAny M A (spliced [] >>= _) Q E s
    refine wpAny_bind (wpAny_mono h (fun vs s' hq => ?_) fun z_ z_ e => e)
    refine wpAny_bind (wpAny_pure ?_)
    refine wpAny_holding ?_
    exact wpAny_bind (wpAny_pure (wpAny_bind (wpAny_pure (wpAny_pure hq))))
  | (false, x) :: rest, z1_ => exact Calls.evalArgs_plain h
  | (true, x) :: rest, hp => simp at hp
noncomputable def Keeps (M : Model) (h : Heap) (f : Value) : Prop := ∃ k, (k = Keeper.frame ∨ k = Keeper.machine ∨ k = Keeper.boundFrame) ∧ Looks M h (keeperOf f) k
theorem callWith_gen {pos : Pos} {f : Value} {first : List Value} {args : List (Bool × Sem Value)} {Q : Value → Shared → Prop} (hp : args.any (·.1) = false)
    (h : wpAny M A (spliced args) (fun vs s1 => Keeps M s1.heap f ∧ wpAny M A (call f (first ++ vs)) Q E s1) E s) : wpAny M A (callWith pos f first args []) Q E s :=
  callWith_of (P := fun h => Keeps M h f) (by rw [hp]; rfl) (fun z_ h => h) (evalArgs_gen hp h)
theorem starEach_cons {e : Expr} {rest : List Expr} (h : isStar e = false) : starEach (e :: rest) env = (false, eval e env) :: starEach rest env := by
  cases e <;> first | rfl | exact no h
theorem star_plain : ∀ {args : List Expr}, args.any isStar = false → ∀ pos, (backTo pos (starEach args env)).any (·.1) = false := @fun y1_ y2_ y3_ => match y1_, y2_, y3_ with
  | [], z1_, pos => rfl
  | e :: rest, h, pos => by
    simp only [List.any_cons, Bool.or_eq_false_iff] at h
    rw [starEach_cons h.1]
    exact star_plain h.2 pos
theorem Keeps.builtin {h : Heap} {id : String} : Keeps M h (.builtin id) := ⟨.machine, .inr (.inl rfl), Looks.of_pure rfl⟩
theorem Keeps.type {h : Heap} {T : String} : Keeps M h (.type T) := ⟨.machine, .inr (.inl rfl), Looks.of_pure rfl⟩
theorem Keeps.K {K : Frag} {h : Heap} {f : Value} (X : K.In h) (hk : keepIn K f = true) : Keeps M h f := keeps_K hk h X
theorem Keeps.func {h : Heap} {a : Addr} {o : Obj} {fd : FuncData} (e : h.get? a = some o) (hd : o.data = .func fd) : Keeps M h (.ref a) := by
  refine ⟨.frame, .inl rfl, ?_⟩
  refine (Looks.ld (part := none) e).andThen ?_
  rw [hd]
  exact .now
theorem call_attr {o : Expr} {name : Str} {apos pos : Pos} {args : List Expr} {Q : Value → Shared → Prop} (hb : isBareCall o = false) (hl : (apos.endLine == pos.line) = true) (hn : args.length ≤ 9) (hs : args.any isStar = false)
    (h : wpAny M A (eval o env) (fun ov s1 => ∀ pl, wpAny M A (getMethod ov name pl) (fun fx s2 => wpAny M A (callWith pos fx.1 fx.2 (backTo pos (starEach args env)) []) Q E s2) E s1) E s) :
    wpAny M A (eval (.Call (.Attribute o name apos) args [] pos) env) Q E s := by
  rw [arm_eval_Call, attrBase_plain hb]
  refine wpAny_bind (wpAny_mono h (fun ov s₁ h₁ => ?_) fun z_ z_ e => e)
  refine wpAny_bind (wpAny_standAt ?_)
  have hform : methodCallForm (args.length + ([] : List Keyword).length) (backTo pos (starEach args env)) (backToKw pos (keywordEach [] env)) = true := by
    unfold methodCallForm
    have h1 := star_plain (env := env) hs pos
    have h2 : (backTo pos (starEach args env)).all (fun x => !x.1) = true := by
      rw [List.all_eq_true]
      intro x hx
      rw [List.any_eq_false] at h1
      simpa using h1 x hx
    have h3 : (backToKw pos (keywordEach [] env)) = [] := rfl
    rw [h2, h3]
    simp only [List.all_nil, List.length_nil, List.isEmpty_nil, if_true, Bool.and_self, Bool.true_and, decide_eq_true_eq]
    omega
  unfold methodCall
  rw [hform]
  refine wpAny_bind (wpAny_holding (wpAny_mono (h₁ _) (fun fx s₂ h₂ => ?_) fun z_ z_ e => e))
  have hpos : methodCallPos true o env apos pos = pure pos := by unfold methodCallPos; simp [hl]
  exact wpAny_bind (wpAny_of_eq hpos h₂)
end
section
variable {X : Cx} {r : Nat} {env : Env} {names : Names} {Xc : Prop} {A : Around} {as as1 : List Addr} {s s1 : Shared} {c c1 : AS}
theorem pop_eq {α : Type} (l : List α) : (l.toArray.eraseIdxIfInBounds (l.toArray.size - 1)) = l.dropLast.toArray := by
  unfold Array.eraseIdxIfInBounds
  split
  · simp only [List.size_toArray, List.eraseIdx_toArray]
    congr 1
    rw [List.eraseIdx_eq_take_drop_succ, List.dropLast_eq_take]
    rename_i h
    rw [List.size_toArray] at h
    rw [List.drop_of_length_le (Nat.le_of_eq (Nat.sub_add_cancel (Nat.zero_lt_of_lt h)).symm), List.append_nil]
  · rename_i h
    rw [List.size_toArray] at h
    have : l = [] := List.length_eq_zero_iff.mp (Nat.eq_zero_of_not_pos fun q => h (Nat.sub_lt q Nat.one_pos))
    clear h
    subst this
    rfl
theorem mapSeq_lst (f : Array Value → Array Value) {ws ws' : List Value} (n : Nat) (h : f ws.toArray = ws'.toArray) : ∃ n', Obj.mapSeq f (lstO ws n) = lstO ws' n' := by
  refine ⟨if (f ws.toArray).size == ws.toArray.size then n else n + 1, ?_⟩
  simp only [Obj.mapSeq, h]
/-- a list of the store is changed -/
theorem At.lstUpd (G : X.Good) (ac : ACond X A r as s.heap) (st : St X env names c as s.heap) {j : Nat} {a : Addr} {ws ws' : List Value} {n : Nat} {l l' : List PV} {f : Array Value → Array Value} {tk : Nat} (hj : as[j]? = some a) (ho : s.heap.get? a = some (lstO ws n)) (hr : RepPs X s.heap ws l)
    (hf : f ws.toArray = ws'.toArray) (hr' : RepPs X s.heap ws' l') : At X r env names A as s ⟨c.ρ, c.σ.set j (.lst l')⟩ as { s with heap := s.heap.update a (Obj.mapSeq f), toks := tk } := by
  obtain ⟨n', e⟩ := mapSeq_lst f n hf
  have kk : TKeep s.heap (s.heap.update a (Obj.mapSeq f)) := tkeep_upd ho (repO_notImm (X := X) (as := as) (h := s.heap) (x := .lst l) ⟨ws, n, rfl, hr⟩)
  exact At.upd (mo := .lst l') G ac st hj ho (by rw [e]; rfl) (by rw [e]; exact ⟨ws', n', rfl, hr'.keep kk⟩)
theorem asLoc_inv {v : MV} {j : Nat} (h : asLoc v = some j) : v = .loc j := by cases v <;> cases h <;> rfl
theorem oneP_inv {vs : List MV} {x : PV} (h : oneP vs = some x) : vs = [.p x] := by
  rcases vs with _ | ⟨v, _ | ⟨w, r⟩⟩
  · cases h
  · cases v <;> cases h <;> rfl
  · cases v <;> cases h
theorem oneT_inv {vs : List MV} {x : List PV} (h : oneT vs = some x) : vs = [.p (.tup x)] := by
  rcases vs with _ | ⟨v, _ | ⟨w, r⟩⟩
  · cases h
  · cases v with
    | p y => cases y <;> cases h <;> rfl
    | _ => cases h
  · cases v with
    | p y => cases y <;> cases h
    | _ => cases h
/-- what a method of a list or a dict does -/
theorem pm_app (G : X.Good) {ov : Value} {oa : MV} {vs : List Value} {ms : List MV} {m : MV} {σ' : List MO} {Q : MV → AS → Prop} (hv : vMeth c.σ .app oa ms = some (m, σ')) (hq : Q m ⟨c.ρ, σ'⟩) :
    SemP X r env names Xc (fun as h => RepM X as h ov oa ∧ RepMs X as h vs ms) (RV X) (call (.builtin "list.append") (ov :: vs)) c Q := by
  intro A as s K E ac st ⟨ro, rs⟩ hk hx
  clear hx
  obtain ⟨j, x, hj0, hx0, hv⟩ := both_inv hv
  obtain ⟨l, hj1, hv⟩ := thenO_inv hv
  obtain ⟨hl, hv⟩ := ifO_inv hv
  cases hv
  clear hv
  have q_ := lstAt_inv hj1
  clear hj1 hv
  obtain ⟨j', rfl, hj⟩ := q_
  clear hv
  cases hj0
  have hx0 := oneP_inv hx0
  subst hx0
  clear hx0
  have q_ := one_of rs
  clear rs
  obtain ⟨v, rfl, h1⟩ := q_
  have q_ := st.lst hj ro
  clear hj ro
  obtain ⟨a, ws, n, rfl, ha, _, ho, hr⟩ := q_
  refine call_meets F.slot_list_append ⟨_, ho, rfl⟩ F.entry_list_append (F.args_list_append_2 _ _) (list_append a ws.toArray n v (by simp only [List.size_toArray, hr.len]; exact Nat.le_trans hl (by decide))) ⟨ho, ?_⟩
  exact hk _ _ _ as _ (At.lstUpd (tk := s.toks) (ws' := ws ++ [v]) G ac st ha ho hr (by simp) (hr.append (.one (by simpa only [RepM] using h1)))) .none hq
theorem pm_pop (G : X.Good) {ov : Value} {oa : MV} {vs : List Value} {ms : List MV} {m : MV} {σ' : List MO} {Q : MV → AS → Prop} (hv : vMeth c.σ .pop oa ms = some (m, σ')) (hq : Q m ⟨c.ρ, σ'⟩) :
    SemP X r env names Xc (fun as h => RepM X as h ov oa ∧ RepMs X as h vs ms) (RV X) (call (.builtin "list.pop") (ov :: vs)) c Q := by
  intro A as s K E ac st ⟨ro, rs⟩ hk hx
  clear hx
  obtain ⟨j, u0, hj0, hx0, hh⟩ := both_inv hv
  obtain ⟨l, hj1, h3⟩ := thenO_inv hh
  clear hv hh
  have q_ := lstAt_inv hj1
  clear hj1
  obtain ⟨j', rfl, hj⟩ := q_
  cases hj0
  have hx0 := isNil_inv hx0
  subst hx0
  simp only [RepMs] at rs
  clear hx0 u0
  subst rs
  by_cases hl : l.length ≤ lim
  · rw [if_pos hl] at h3
    obtain ⟨x, hx', e⟩ := Option.map_eq_some_iff.mp h3
    clear h3
    cases e
    have q_ := st.lst hj ro
    clear hj ro
    obtain ⟨a, ws, n, rfl, ha, _, ho, hr⟩ := q_
    have hlast : l[l.length - 1]? = some x := by rw [← List.getLast?_eq_getElem?]; exact hx'
    clear hx'
    obtain ⟨u, hu, hru⟩ := hr.get hlast
    rw [← hr.len] at hu
    refine call_meets F.slot_list_pop ⟨_, ho, rfl⟩ F.entry_list_pop (F.args_list_pop_1 _) (MeetsSeq.list_pop_last a ws.toArray n u (by simpa using hu) (by simp only [List.size_toArray, hr.len]; exact Nat.le_trans hl (by decide))) ⟨ho, ?_⟩
    have hdl : RepPs X s.heap ws.dropLast l.dropLast := by
      rw [List.dropLast_eq_take, List.dropLast_eq_take, hr.len]
      exact hr.take _
    have kk : TKeep s.heap (s.heap.update a (Obj.mapSeq fun xs => xs.eraseIdxIfInBounds (ws.toArray.size - 1))) := tkeep_upd ho (repO_notImm (X := X) (as := as) (h := s.heap) (x := .lst l) ⟨ws, n, rfl, hr⟩)
    exact hk _ _ _ as _ (At.lstUpd (tk := s.toks) (ws' := ws.dropLast) G ac st ha ho hr (pop_eq ws) hdl) (by simp only [RV, RepM]; exact hru.keep kk) hq
  · rw [if_neg hl] at h3
    clear G ac hj hk hl hq l ro st
    cases h3
theorem pm_ext (G : X.Good) {ov : Value} {oa : MV} {vs : List Value} {ms : List MV} {m : MV} {σ' : List MO} {Q : MV → AS → Prop} (hv : vMeth c.σ .ext oa ms = some (m, σ')) (hq : Q m ⟨c.ρ, σ'⟩) :
    SemP X r env names Xc (fun as h => RepM X as h ov oa ∧ RepMs X as h vs ms) (RV X) (call (.builtin "list.extend") (ov :: vs)) c Q := by
  intro A as s K E ac st ⟨ro, rs⟩ hk hx
  clear hx
  obtain ⟨j, xs, hj0, hx0, hv⟩ := both_inv hv
  obtain ⟨l, hj1, hv⟩ := thenO_inv hv
  obtain ⟨hl, hv⟩ := ifO_inv hv
  cases hv
  clear hv
  have q_ := lstAt_inv hj1
  clear hj1 hv
  obtain ⟨j', rfl, hj⟩ := q_
  clear hv
  cases hj0
  have hx0 := oneT_inv hx0
  subst hx0
  clear hx0
  have q_ := one_of rs
  clear rs
  obtain ⟨v, rfl, h1⟩ := q_
  have q_ := st.lst hj ro
  clear hj ro
  obtain ⟨a, ws, n, rfl, ha, _, ho, hr⟩ := q_
  simp only [RepM, RepP] at h1
  obtain ⟨b, us, n2, rfl, hb, hrb⟩ := h1
  have hl' : l.length + xs.length ≤ 1000000 := hl
  have hz : sizeLine = 16777216 := rfl
  have e1 := hr.len
  have e2 := hrb.len
  refine call_meets F.slot_list_extend ⟨_, ho, rfl⟩ F.entry_list_extend (F.args_list_extend_2 _ _) (AutoSeq1.list_extend_list_tuple_0 a ws.toArray n b us.toArray n2 ?_ (by rw [List.size_toArray, e1]; exact Nat.le_trans (Nat.le_add_right _ _) (Nat.le_trans hl' (by decide))) (by rw [List.size_toArray, List.size_toArray, e1, e2]; exact Nat.le_trans hl' (by decide))) ⟨ho, hb, ?_⟩
  · have : Builtin.List.listTooLong (ws.toArray.size + us.toArray.size) = false := by
      unfold Builtin.List.listTooLong
      simp only [List.size_toArray, decide_eq_false_iff_not]
      rw [e1, e2]
      exact Nat.not_lt.mpr (Nat.le_trans hl' (by decide))
    rw [this]; simp
  · exact hk _ _ _ as _ (At.lstUpd (tk := s.toks) (ws' := ws ++ us) G ac st ha ho hr (by simp) (hr.append hrb)) .none hq
theorem pm_dget (G : X.Good) {ov : Value} {oa : MV} {vs : List Value} {ms : List MV} {m : MV} {σ' : List MO} {Q : MV → AS → Prop} (hv : vMeth c.σ .get oa ms = some (m, σ')) (hq : Q m ⟨c.ρ, σ'⟩) :
    SemP X r env names Xc (fun as h => RepM X as h ov oa ∧ RepMs X as h vs ms) (RV X) (call (.builtin "dict.get") (ov :: vs)) c Q := by
  intro A as s K E ac st ⟨ro, rs⟩ hk hx
  clear hx
  rcases ms with _ | ⟨u, _ | ⟨v, _ | ⟨w, r⟩⟩⟩
  · clear G ac hk hq ro rs st
    cases hv
  · clear G ac hk hq ro rs st
    cases hv
  · obtain ⟨k, u0, hk0, hn, hv⟩ := both_inv hv
    obtain ⟨hl, hv⟩ := ifO_inv hv
    cases hv
    clear hv
    obtain ⟨es, he, hn⟩ := thenO_inv hn
    rw [isNil_inv hn] at he
    clear hn hv
    have q_ := dctAt_inv he
    clear es he hn u0
    obtain ⟨j, rfl, hj⟩ := q_
    have hk0 := asStr_inv hk0
    subst hk0
    clear hk0
    have q_ := two_of rs
    clear rs
    obtain ⟨w1, w2, rfl, h1, h2⟩ := q_
    have q_ := st.dct hj ro
    clear hj ro
    obtain ⟨a, des, n, rfl, ha, hlo, ho, hr⟩ := q_
    simp only [RepM, RepP] at h1
    clear ha j
    obtain ⟨_, t, rfl⟩ := h1
    have hf := repEs_find hl hr
    have hm := repEs_map ho hr
    refine call_meetsIn PySem.F.slot_dict_get hm.typeIs PySem.F.entry_dict_get (PySem.F.args_dict_get_3 _ _ _) (meets_dict_get_default (PySem.strKind X.prog X.w) a (PySem.strKind_is X.prog X.w _ _) (G.mods hlo) w2) ⟨_, hm, ?_⟩
    have hf' : (des.find? fun e => Value.isStrOf (S k) e.key).map (·.val) = none := hf
    rw [hf']
    exact hk _ _ c as _ (.tok ac st _) h2 hq
  · clear G ac hk hq ro rs st
    cases hv
end
end Mine
namespace Mine
/-! ## what a function gives, and the caller's frame -/
noncomputable def FnAt (X : Cx) (h : Heap) (a : Nat) (v : Value) : Prop := (a < 1000 ∧ v = .ref a) ∨ (∃ k d o, a = 1000 + k ∧ v = .ref d ∧ h.get? d = some o ∧ lamAt X h k o)
structure Came (X : Cx) (r : Nat) (A : Around) (as : List Addr) (s : Shared) (σp' σn : List MO) (asn : List Addr) (s' : Shared) : Prop where
  base : Base X s'.heap
  store : StoreOK X s'.heap (as ++ asn) (σp' ++ σn)
  len : σp'.length = as.length
  kp : Kp (frAddrs A) as s.heap s'.heap
  new : ∀ x ∈ asn, s.heap.get? x = none
  same : ∃ h tk, s' = { s with heap := h, toks := tk }
structure Out (X : Cx) (A : Around) (as : List Addr) (s : Shared) (e : Addr) (s' : Shared) : Prop where
  base : Base X s'.heap
  kp : Kp (frAddrs A) as s.heap s'.heap
  exc : ExcIn s'.heap e none
  new : s.heap.get? e = none
  newT : ∀ T, TbOf s'.heap e T → s.heap.get? T = none
  there : ∀ b, s'.heap.get? b = none → s.heap.get? b = none
  same : ∃ h tk, s' = { s with heap := h, toks := tk }
noncomputable def SemFn (X : Cx) (r a : Nat) (args : List MV) (σp : List MO) (Q : MV → List MO → List MO → Prop) (Xf : Prop) : Prop :=
  ∀ (A : Around) (as : List Addr) (s : Shared) (v : Value) (vs : List Value) (R : Result → Shared → Prop), ACond X A r as s.heap → Base X s.heap → X.g1.objs.size ≤ s.heap.objs.size → StoreOK X s.heap as σp → FnAt X s.heap a v → RepMs X as s.heap vs args →
    (∀ u m σp' σn asn s', Came X r A as s σp' σn asn s' → RepM X (as ++ asn) s'.heap u m → Q m σp' σn → R (.ok (.ret u)) s') → (Xf → ∀ e s', Out X A as s e s' → R (.error (.ref e)) s') → codeAny (model X.prog X.w) A (.call v ⟨vs, []⟩) R s
noncomputable def SpecOK (X : Cx) (Sp : Spec) : Prop := ∀ r a args σp Q Xf, Sp r a args σp Q Xf → (∀ h v, Base X h → FnAt X h a v → Keeps (model X.prog X.w) h v) ∧ SemFn X r a args σp Q Xf

theorem nodup_of : ∀ {l : List Nat}, nodupB l = true → l.Nodup := @fun y1_ y2_ => match y1_, y2_ with
  | [], z1_ => List.nodup_nil
  | i :: r, h => by
    simp only [nodupB, Bool.and_eq_true, Bool.not_eq_true'] at h
    refine List.nodup_cons.mpr ⟨fun hm => ?_, nodup_of h.2⟩
    have := List.elem_eq_true_of_mem hm
    rw [h.1] at this
    clear h hm i r y2_
    cases this
theorem posIn_get {sel : List Nat} {i : Nat} (h : sel.elem i = true) : sel[posIn sel i]? = some i := by
  have hm : i ∈ sel := List.mem_of_elem_eq_true h
  unfold posIn
  have hlt : sel.findIdx (· == i) < sel.length := List.findIdx_lt_length_of_exists ⟨i, hm, by simp⟩
  have := List.findIdx_getElem (xs := sel) (p := (· == i)) (w := hlt)
  rw [List.getElem?_eq_getElem hlt, eq_of_beq this]
theorem pick_len (σ : List MO) (sel : List Nat) : ∀ {l : List Nat}, (∀ i ∈ l, i < σ.length) → (pickO σ sel l).length = l.length := @fun y1_ y2_ => match y1_, y2_ with
  | [], z1_ => rfl
  | i :: r, h => by
    have hi := h i (.head _)
    simp only [pickO, List.getElem?_eq_getElem hi, List.length_append, List.length_cons, List.length_nil, pick_len σ sel (fun j hj => h j (.tail _ hj)), Nat.zero_add, Nat.add_comm 1]
theorem pick_get (σ : List MO) (sel : List Nat) : ∀ {l : List Nat} {p : Nat} {o : MO}, (∀ i ∈ l, i < σ.length) → (pickO σ sel l)[p]? = some o → ∃ i o', l[p]? = some i ∧ σ[i]? = some o' ∧ o = renO (posIn sel) o' := @fun y1_ y2_ y3_ y4_ y5_ => match y1_, y2_, y3_, y4_, y5_ with
  | [], p, o, z1_, e => by simp [pickO] at e
  | i :: r, p, o, h, e => by
    have hi := h i (.head _)
    simp only [pickO, List.getElem?_eq_getElem hi] at e
    clear y4_ y5_
    cases p with
    | zero =>
      simp at e
      exact ⟨i, _, rfl, List.getElem?_eq_getElem hi, e.symm⟩
    | succ n =>
      simp at e
      clear hi y1_ y2_ y3_
      obtain ⟨j, o', h1, h2, h3⟩ := pick_get σ sel (fun j hj => h j (.tail _ hj)) e
      exact ⟨j, o', by simpa using h1, h2, h3⟩
theorem putBack_len (f : Nat → Nat) : ∀ (is : List Nat) (os σ : List MO), (putBack f σ is os).length = σ.length := fun y1_ y2_ y3_ => match y1_, y2_, y3_ with
  | [], z1_, z2_ => by simp [putBack]
  | z1_ :: z2_, [], z3_ => by simp [putBack]
  | i :: is, o :: os, σ => by rw [putBack, putBack_len f is os, List.length_set]
theorem putBack_get (f : Nat → Nat) : ∀ (is : List Nat) (os σ : List MO) {j : Nat} {o : MO}, is.Nodup → is.length = os.length → (putBack f σ is os)[j]? = some o →
    (∃ (p : Nat) (o' : MO), is[p]? = some j ∧ os[p]? = some o' ∧ o = renO f o') ∨ (j ∉ is ∧ σ[j]? = some o)
  | [], os, σ, j, o, z1_, z2_, e => .inr ⟨(fun h => nomatch h), by simpa [putBack] using e⟩
  | z1_ :: z2_, [], z3_, z4_, z5_, z6_, l, z7_ => by simp at l
  | i :: is, x :: os, σ, j, o, nd, l, e => by
    rw [putBack] at e
    have q_ := putBack_get f is os (σ.set i (renO f x)) (List.nodup_cons.mp nd).2 (by simpa using l) e
    clear e l nd putBack_get
    rcases q_ with ⟨p, o', h1, h2, h3⟩ | ⟨h1, h2⟩
    · exact .inl ⟨p + 1, o', by simpa using h1, by simpa using h2, h3⟩
    · by_cases hij : i = j
      · clear h1
        subst hij
        have hl := (List.getElem?_eq_some_iff.mp h2).1
        rw [List.length_set] at hl
        rw [List.getElem?_set_self hl] at h2
        exact .inl ⟨0, x, rfl, rfl, (Option.some.inj h2).symm⟩
      · rw [List.getElem?_set_ne hij] at h2
        exact .inr ⟨fun hm => (List.mem_cons.mp hm).elim (fun q => hij q.symm) h1, h2⟩

section
variable {X : Cx} {r : Nat} {env : Env} {names : Names} {Xc : Prop} {A : Around} {as as1 : List Addr} {s s1 : Shared} {c c1 : AS}
/-- the callee's part of the store -/
noncomputable def subAs (as : List Addr) (sel : List Nat) : List Addr := sel.map fun i => as.getD i 0
theorem subAs_get {as : List Addr} {sel : List Nat} {p : Nat} {a : Addr} (e : (subAs as sel)[p]? = some a) (hs : ∀ i ∈ sel, i < as.length) : ∃ i, sel[p]? = some i ∧ as[i]? = some a := by
  unfold subAs at e
  rw [List.getElem?_map, Option.map_eq_some_iff] at e
  obtain ⟨i, hi, rfl⟩ := e
  have hl := hs i (List.mem_of_getElem? hi)
  exact ⟨i, hi, by rw [List.getD_eq_getElem?_getD, List.getElem?_eq_getElem hl]; rfl⟩
theorem subAs_at {as : List Addr} {sel : List Nat} {p i : Nat} {a : Addr} (e : sel[p]? = some i) (h : as[i]? = some a) : (subAs as sel)[p]? = some a := by
  unfold subAs
  rw [List.getElem?_map, e, Option.map_some, List.getD_eq_getElem?_getD, h]
  rfl
theorem subAs_mem {as : List Addr} {sel : List Nat} {a : Addr} (h : a ∈ subAs as sel) (hs : ∀ i ∈ sel, i < as.length) : a ∈ as := by
  obtain ⟨p, hp, e⟩ := List.getElem_of_mem h
  clear h
  obtain ⟨i, _, h2⟩ := subAs_get (as := as) (sel := sel) (p := p) (a := a) (by rw [← e]; exact List.getElem?_eq_getElem hp) hs
  exact List.mem_of_getElem? h2
theorem subAs_nodup {as : List Addr} {sel : List Nat} (nd : sel.Nodup) (na : as.Nodup) (hs : ∀ i ∈ sel, i < as.length) : (subAs as sel).Nodup := by
  unfold subAs
  refine List.pairwise_map.mpr (List.Pairwise.imp_of_mem (fun {i j} hi hj hne e => hne ?_) nd)
  have h1 := hs i hi
  have h2 := hs j hj
  rw [List.getD_eq_getElem?_getD, List.getD_eq_getElem?_getD, List.getElem?_eq_getElem h1, List.getElem?_eq_getElem h2] at e
  exact (List.getElem_inj na).mp e

theorem selOk_nodup {σ : List MO} {sel : List Nat} (h : selOk σ sel = true) : sel.Nodup := by
  simp only [selOk, Bool.and_eq_true] at h
  exact nodup_of h.1
theorem selOk_lt {σ : List MO} {sel : List Nat} (h : selOk σ sel = true) : ∀ i ∈ sel, i < σ.length := fun i hi => by
  simp only [selOk, Bool.and_eq_true] at h
  have := List.all_eq_true.mp h.2 i hi
  simp only [Bool.and_eq_true, decide_eq_true_eq] at this
  exact this.1
theorem selOk_cl {σ : List MO} {sel : List Nat} (h : selOk σ sel = true) {i : Nat} {o : MO} (hi : i ∈ sel) (e : σ[i]? = some o) : ∀ j ∈ refsO o, sel.elem j = true := fun j hj => by
  simp only [selOk, Bool.and_eq_true] at h
  have := List.all_eq_true.mp h.2 i hi
  simp only [Bool.and_eq_true, decide_eq_true_eq] at this
  have h2 := this.2
  unfold refsAt at h2
  rw [e] at h2
  exact List.all_eq_true.mp h2 j hj
theorem sub_ren {as : List Addr} {sel : List Nat} {l : List Nat} (h : ∀ j ∈ l, sel.elem j = true) : ∀ j ∈ l, ∀ a, as[j]? = some a → (subAs as sel)[posIn sel j]? = some a :=
  fun j hj a e => subAs_at (posIn_get (h j hj)) e
theorem sub_store {h : Heap} {σ : List MO} {sel : List Nat} (st : StoreOK X h as σ) (ok : selOk σ sel = true) : StoreOK X h (subAs as sel) (pickO σ sel sel) := by
  have hlt := selOk_lt ok
  have hlt' : ∀ i ∈ sel, i < as.length := fun i hi => by rw [st.1]; exact hlt i hi
  refine ⟨by rw [pick_len σ sel hlt]; simp [subAs], subAs_nodup (selOk_nodup ok) st.2.1 hlt', fun p o e => ?_⟩
  clear hlt'
  have q_ := pick_get σ sel hlt e
  clear e hlt
  obtain ⟨i, o', h1, h2, rfl⟩ := q_
  obtain ⟨a, ob, k1, k2, k3, k4⟩ := st.2.2 i o' h2
  exact ⟨a, ob, subAs_at h1 k1, k2, k3, k4.ren (sub_ren (selOk_cl ok (List.mem_of_getElem? h1) h2))⟩
theorem ns_slots {h h' : Heap} {L : Addr} {m : Str → Option Value} (n : h.Ns L m) (k : ∀ o, h.get? L = some o → ∃ sl, h'.get? L = some { o with slots := sl }) : h'.Ns L m := by
  obtain ⟨o, es, ep, e, hd, r⟩ := n
  obtain ⟨sl, e'⟩ := k o e
  exact ⟨_, es, ep, e', hd, r⟩
theorem Kp.ns {F O : List Addr} {h h' : Heap} (k : Kp F O h h') {L : Addr} {m : Str → Option Value} (n : h.Ns L m) (hO : L ∉ O) (hP : L ≠ PT) : h'.Ns L m :=
  ns_slots n fun o e => let ⟨sl, e', _⟩ := k L o e hO hP; ⟨sl, e'⟩
theorem high_ne (G : X.Good) {b : Addr} (h : X.g1.objs.size ≤ b) : b ≠ PT := fun e => by
  subst e
  exact absurd G.pt (Nat.not_lt.mpr h)
theorem fn_code (G : X.Good) {Sp : Spec} (SO : SpecOK X Sp) {a : Nat} {ms : List MV} {v : Value} {vs : List Value} {Q : MV → AS → Prop} (h : vcFn Sp r a ms Xc c Q) {R : Result → Shared → Prop}
    (ac : ACond X A r as s.heap) (st : St X env names c as s.heap) (hf : FnAt X s.heap a v) (hr : RepMs X as s.heap vs ms)
    (hk : ∀ u m c' as' s', At X r env names A as s c' as' s' → RepM X as' s'.heap u m → Q m c' → R (.ok (.ret u)) s') (hx : Xc → ∀ e s', ThrownAt X env A as s e s' → R (.error (.ref e)) s') :
    codeAny (model X.prog X.w) A (.call v ⟨vs, []⟩) R s := by
  unfold vcFn at h
  obtain ⟨⟨sel, ms', σp⟩, he, hq⟩ := onP_elim h
  unfold handOver at he
  dsimp only at he
  generalize reach c.σ (addNew [] (refsVs ms)) = sel0 at he
  split at he
  · rename_i hok
    clear h
    cases he
    simp only [Bool.and_eq_true] at hok
    dsimp only at hq
    obtain ⟨ok, hall⟩ := hok
    have S := st.store
    have hlt := selOk_lt ok
    have hlt' : ∀ i ∈ sel, i < as.length := fun i hi => by rw [S.1]; exact hlt i hi
    have hmem : ∀ b ∈ subAs as sel, b ∈ as := fun b hb => subAs_mem hb hlt'
    have ac0 : ACond X A r (subAs as sel) s.heap := ⟨ac.handled, ac.depth, ac.units, ac.frames, fun b hb hm => ac.off b hb (hmem b hm), ac.high⟩
    clear hlt
    obtain ⟨m₀, F⟩ := st.frame
    have hL : env.locals ∉ subAs as sel := fun hm => F.off (hmem _ hm)
    have hP := high_ne G F.high
    refine (SO _ _ _ _ _ _ hq).2 A (subAs as sel) s v vs _ ac0 st.base st.low (sub_store S ok) hf (hr.ren (sub_ren fun j hj => List.all_eq_true.mp hall j hj)) (fun u m σp' σn asn s' n hu hq' => ?_) fun x e s' o => hx x e s' ?_
    · have tk : TKeep s.heap s'.heap := n.kp.tkeep st.base ac fun b hb o e => S.notImm (hmem b hb) e
      have hnew : ∀ x ∈ asn, ∀ o, s.heap.get? x ≠ some o := fun x hx o e => by rw [n.new x hx] at e; cases e
      have hlen : sel.length = σp'.length := by rw [n.len]; simp [subAs]
      have hl2 : asn.length = σn.length := by have := n.store.1; rw [List.length_append, List.length_append, n.len] at this; exact Nat.add_left_cancel this
      have hgo : ∀ j a, (subAs as sel ++ asn)[j]? = some a → (as ++ asn)[backId sel c.σ.length j]? = some a := fun j a e => by
        unfold backId
        by_cases hj : j < sel.length
        · rw [if_pos hj]
          rw [List.getElem?_append_left (by simpa [subAs] using hj)] at e
          clear F G S SO ac ac0 hL hP hall hf hj hk hl2 hlen hmem hnew hq hq' hr hu hx m ms m₀ n ok st tk u v vs σn σp'
          obtain ⟨i, h1, h2⟩ := subAs_get e hlt'
          rw [List.getD_eq_getElem?_getD, h1]
          simp only [Option.getD_some]
          rw [List.getElem?_append_left (List.getElem?_eq_some_iff.mp h2).1]
          exact h2
        · rw [if_neg hj]
          have e0 : (subAs as sel).length = sel.length := by simp [subAs]
          rw [List.getElem?_append_right (e0 ▸ Nat.not_lt.mp hj), e0] at e
          rw [List.getElem?_append_right (by rw [S.1]; exact Nat.le_add_right _ _), S.1, Nat.add_sub_cancel_left]
          exact e
      have hstore : StoreOK X s'.heap (as ++ asn) (takeBack c.σ sel σp' σn) := by
        refine ⟨?_, ?_, fun i o e => ?_⟩
        · unfold takeBack
          rw [List.length_append, List.length_append, putBack_len, List.length_map, S.1, hl2]
        · refine List.nodup_append.mpr ⟨S.2.1, (List.nodup_append.mp n.store.2.1).2.1, fun x hx y hy e => ?_⟩
          clear F G SO ac ac0 hL hP hall hf hgo hk hl2 hlen hlt' hmem hq hq' hr hu m ms m₀ n ok sel st tk u v vs σn σp'
          subst e
          clear Q Sp a s'
          obtain ⟨_, _, ob, _, _, _, e, _⟩ := S.mem hx
          exact hnew x hy ob e
        · unfold takeBack at e
          by_cases hi : i < c.σ.length
          · rw [List.getElem?_append_left (by rw [putBack_len]; exact hi)] at e
            clear F SO ac0 hL hP hall hf hi hk hl2 hmem hnew hq hq' hr hu hx m ms m₀ st u v vs
            have q_ := putBack_get _ sel σp' c.σ (selOk_nodup ok) hlen e
            clear Q R Sp hlen ok
            rcases q_ with ⟨p, o', h1, h2, rfl⟩ | ⟨h1, h2⟩
            · clear G S ac hlt' tk
              obtain ⟨a, ob, k1, k2, k3, k4⟩ := n.store.2.2 p o' (by rw [List.getElem?_append_left (List.getElem?_eq_some_iff.mp h2).1]; exact h2)
              have hp : p < sel.length := (List.getElem?_eq_some_iff.mp h1).1
              have k1' := hgo p a k1
              unfold backId at k1'
              rw [if_pos hp, List.getD_eq_getElem?_getD, h1] at k1'
              exact ⟨a, ob, k1', k2, k3, k4.ren fun j _ a e => hgo j a e⟩
            · clear e hgo
              obtain ⟨a, ob, k1, k2, k3, k4⟩ := S.2.2 i o h2
              have hnot : a ∉ subAs as sel := fun hm => by
                clear G ac h2 k2 k3 k4 n o ob tk σn σp'
                obtain ⟨p, hp, e'⟩ := List.getElem_of_mem hm
                clear asn hm s'
                obtain ⟨i', q1, q2⟩ := subAs_get (p := p) (a := a) (by rw [← e']; exact List.getElem?_eq_getElem hp) hlt'
                have l1 := List.getElem?_eq_some_iff.mp k1
                have l2 := List.getElem?_eq_some_iff.mp q2
                have : i = i' := (List.getElem_inj S.2.1).mp (l1.2.trans l2.2.symm)
                exact h1 (this ▸ List.mem_of_getElem? q1)
              exact ⟨a, ob, by rw [List.getElem?_append_left (List.getElem?_eq_some_iff.mp k1).1]; exact k1, k2, n.kp.exact k3 hnot (high_ne G k2) (fun hm => ac.off a hm (List.mem_of_getElem? k1)), (k4.keep tk).more⟩
          · rw [List.getElem?_append_right (by rw [putBack_len]; exact Nat.not_lt.mp hi), putBack_len, List.getElem?_map, Option.map_eq_some_iff] at e
            clear F G S SO ac ac0 hL hP hall hf hk hl2 hlt' hmem hnew hq hq' hr hu hx m ms m₀ ok st tk u v vs
            obtain ⟨o', h2, rfl⟩ := e
            clear Q R Sp
            obtain ⟨a, ob, k1, k2, k3, k4⟩ := n.store.2.2 (σp'.length + (i - c.σ.length)) o' (by rw [List.getElem?_append_right (Nat.le_add_right _ _), Nat.add_sub_cancel_left]; exact h2)
            have k1' := hgo _ a k1
            unfold backId at k1'
            rw [hlen, if_neg (Nat.not_lt.mpr (Nat.le_add_right _ _)), Nat.add_sub_cancel_left, Nat.add_sub_cancel' (Nat.not_lt.mp hi)] at k1'
            exact ⟨a, ob, k1', k2, k3, k4.ren fun j _ a e => hgo j a e⟩
      have hlocs : env.locals ∉ as ++ asn := fun hm => (List.mem_append.mp hm).elim F.off fun hm => by
        clear G S SO ac ac0 hL hP hall hf hgo hk hl2 hlen hlt' hmem hq hq' hr hstore hu hx m ms n ok sel st tk u v vs σn σp'
        obtain ⟨o, e, _⟩ := F.obj
        exact hnew _ hm o e
      refine hk u (renV (backId sel c.σ.length) m) ⟨c.ρ, takeBack c.σ sel σp' σn⟩ (as ++ asn) s' ⟨?_, ⟨n.base, ⟨m₀, ⟨n.kp.ns F.ns hL hP, F.high, hlocs, F.len, fun i mv x kd e q => ((F.var i mv x kd e q).keep tk).more⟩⟩, hstore⟩, n.kp.mono fun b hb => .tail _ (hmem b hb), ⟨asn, rfl, n.new⟩, n.same⟩ (hu.ren fun j _ a e => hgo j a e) hq'
      exact ac.kp (X := X) n.kp st.base (fun b hb hm => absurd (hmem b hb) (ac.off b hm)) fun x hx => (List.mem_append.mp hx).imp id (n.new x)
    · refine ⟨o.base, o.kp.mono fun b hb => .tail _ (hmem b hb), ⟨m₀, o.kp.ns F.ns hL hP⟩, ?_, o.new, o.newT, o.there, o.same⟩
      clear F G S SO ac ac0 hL hP hall hf hk hlt' hmem hq hr hx ms m₀ ok st v vs x
      obtain ⟨oe, ws, q1, q2, q3, q4, q5⟩ := o.exc
      refine ⟨oe, ws, q1, q2, q3, q4, ?_⟩
      clear Q R Sp a o q1 q2 q3 q4 sel
      rcases q5 with q5 | ⟨T, oT, ts, w1, w2, w3, w4, wf, w5 | ⟨f, w5, _⟩⟩
      · exact .inl q5
      · exact .inr ⟨T, oT, ts, w1, w2, w3, w4, wf, .inl w5⟩
      · clear oe w1 w2 w3 w4 wf
        cases w5
  · clear G SO ac h hf hk hq hr hx st
    cases he
theorem sem_fn (G : X.Good) {Sp : Spec} (SO : SpecOK X Sp) {a : Nat} {ms : List MV} {v : Value} {vs : List Value} {Q : MV → AS → Prop} (h : vcFn Sp r a ms Xc c Q) :
    SemP X r env names Xc (fun as h => FnAt X h a v ∧ RepMs X as h vs ms) (RV X) (call v vs) c Q :=
  fun A as s K E ac st hp hk hx => wpAny_call (fn_code G SO h ac st hp.1 hp.2 (fun u m c' as' s' n hr hq => hk u m c' as' s' n hr hq) hx)
theorem fn_keeps {Sp : Spec} (SO : SpecOK X Sp) {a : Nat} {ms : List MV} {v : Value} {Q : MV → AS → Prop} (h : vcFn Sp r a ms Xc c Q) {h₀ : Heap} (B : Base X h₀) (hf : FnAt X h₀ a v) : Keeps (model X.prog X.w) h₀ v := by
  unfold vcFn at h
  obtain ⟨q, _, hq⟩ := onP_elim h
  exact (SO _ _ _ _ _ _ hq).1 _ _ B hf
end
end Mine
namespace Mine
section
variable {X : Cx} {r : Nat} {env : Env} {names : Names} {Xc : Prop} {A A' : Around} {as as1 as' : List Addr} {s s1 s' : Shared} {c c1 c' : AS}
theorem ACond.to {r' : Nat} {h : Heap} (a : ACond X A r as h) (e1 : A'.handled = A.handled) (e2 : A'.frames = A.frames) (e3 : A'.depth + r' ≤ A.depth + r) (e4 : A'.units + 12 * r' ≤ A.units + 12 * r) : ACond X A' r' as h := by
  have ef : frAddrs A' = frAddrs A := by unfold frAddrs; rw [e2]
  refine ⟨e1.trans a.handled, Nat.lt_of_le_of_lt (Nat.add_le_add_right e3 _) a.depth, Nat.lt_of_le_of_lt (Nat.add_le_add_right e4 _) a.units, by rw [e2]; exact a.frames, by rw [ef]; exact a.off, by rw [ef]; exact a.high⟩
theorem At.to {r' : Nat} (n : At X r' env names A' as s c' as' s') (a : ACond X A r as s.heap) (e2 : A'.frames = A.frames) : At X r env names A as s c' as' s' := by
  have ef : frAddrs A' = frAddrs A := by unfold frAddrs; rw [e2]
  have k := n.kp
  rw [ef] at k
  have off := n.cond.off
  rw [ef] at off
  exact ⟨⟨a.handled, a.depth, a.units, by rw [← e2]; exact n.cond.frames, off, a.high⟩, n.st, k, n.ext, n.same⟩
theorem call_code {f : Value} {pos : List Value} {kw : List (Str × Value)} {K : Value → Shared → Prop} {E : Value → Shared → Prop}
    (h : codeAny (model X.prog X.w) A (.call f ⟨pos, kw⟩) (fun r s' => match r with | .ok (.ret v) => K v s' | .ok _ => False | .error e => E e s') s) : wpAny (model X.prog X.w) A (call f pos kw) K E s := wpAny_call h
theorem At.inst (ac : ACond X A r as s.heap) (st : St X env names c as s.heap) (C : Nat) {tk : Nat} :
    At X r env names A as s ⟨c.ρ, c.σ ++ [.dct [], .inst C c.σ.length]⟩ (as ++ [s.heap.objs.size, s.heap.objs.size + 1]) { s with heap := (s.heap.push (dictOf [] 0)).push (instObj C s.heap.objs.size), toks := tk } := by
  have n1 := (At.dct (tk := tk) ac st).1
  have n2 := At.new (mo := .inst C c.σ.length) (tk := tk) n1.cond n1.st (o := instObj C s.heap.objs.size) rfl ⟨s.heap.objs.size, by
    rw [List.getElem?_append_left (by simp [st.store.1]), ← st.store.1, List.getElem?_concat_length], rfl⟩
  have n3 := n1.trans n2 (n1.there st)
  simp only [List.append_assoc, List.cons_append, List.nil_append, Heap.size_push] at n3
  exact n3
theorem under3 {r : Nat} (h : 3 ≤ r) (a : Nat) : a + 1 + (r - 3) ≤ a + r ∧ a + 1 + 12 * (r - 3) ≤ a + 12 * r := by
  have q_ := Nat.exists_eq_add_of_le h
  clear h
  obtain ⟨k, rfl⟩ := q_
  rw [Nat.add_sub_cancel_left, Nat.add_assoc, Nat.add_assoc, Nat.mul_add]
  exact ⟨Nat.add_le_add_left (Nat.add_le_add_right (by decide) k) a, Nat.add_le_add_left (Nat.add_le_add_right (by decide) _) a⟩
theorem sem_new (G : X.Good) (CC : ClassesOK X) {Sp : Spec} (SO : SpecOK X Sp) {C ini : Nat} {ms : List MV} {vs : List Value} {Q : MV → AS → Prop} (hi : initOf C = some ini) (hr3 : 3 ≤ r)
    (h : vcFn Sp (r - 3) ini (.loc (c.σ.length + 1) :: ms) False ⟨c.ρ, c.σ ++ [.dct [], .inst C c.σ.length]⟩ fun v c' => v = mN ∧ Q (.loc (c.σ.length + 1)) c') :
    SemP X r env names Xc (fun as h => RepMs X as h vs ms) (RV X) (call (.ref C) vs) c Q := by
  intro A as s K E ac st hr hk hx
  have hC := initOf_cls hi
  have CO := CC C hC
  clear CC hC hx
  obtain ⟨hi1, hi2, hi3⟩ := CO.init ini hi
  have XK := st.base.keepK G
  have n := At.inst (tk := s.toks) ac st C
  have hn := n.st.base.keepK G
  refine wpAny_call ?_
  clear hi hn
  obtain ⟨hh, g, d, t, os⟩ := s
  refine make_core (makes_of XK CO.makes) (looks_findIn XK hi2) (fun self => bind_fn XK self hi3) (.inl rfl) ?_
  have self : RepM X (as ++ [hh.objs.size, hh.objs.size + 1]) ((hh.push (dictOf [] 0)).push (instObj C hh.objs.size)) (.ref (hh.objs.size + 1)) (.loc (c.σ.length + 1)) := by
    simp only [RepM]
    refine ⟨_, ?_, rfl⟩
    rw [← st.store.1, List.getElem?_append_right (Nat.le_succ _), Nat.succ_sub (Nat.le_refl _), Nat.sub_self]
    rfl
  have ac' : ACond X (A.under (.builtin "type.__call__" ⟨.ref C :: vs, []⟩)) (r - 3) (as ++ [hh.objs.size, hh.objs.size + 1]) ((hh.push (dictOf [] 0)).push (instObj C hh.objs.size)) := by
    refine n.cond.to rfl ?_ ?_ ?_
    · clear CO E G SO XK ac h hi1 hi2 hi3 hk hr hr3 ini ms n self st t
      obtain ⟨a1, a2, a3, a4, a5⟩ := A
      cases a3 <;> rfl
    · show A.depth + 1 + (r - 3) ≤ A.depth + r
      exact (under3 hr3 _).1
    · show A.units + 1 + 12 * (r - 3) ≤ A.units + 12 * r
      exact (under3 hr3 _).2
  have hfr : (A.under (.builtin "type.__call__" ⟨.ref C :: vs, []⟩)).frames = A.frames := by
    clear CO E G SO XK ac ac' h hi1 hi2 hi3 hk hr hr3 ini ms n self st t
    obtain ⟨a1, a2, a3, a4, a5⟩ := A
    cases a3 <;> rfl
  refine fn_code (r := r - 3) (as := as ++ [hh.objs.size, hh.objs.size + 1]) (s := ⟨(hh.push (dictOf [] 0)).push (instObj C hh.objs.size), g, d, t, os⟩) G SO h ac' n.st (.inl ⟨hi1, rfl⟩) (by simp only [RepMs]; exact ⟨_, _, rfl, self, n.reps ac st hr⟩) (fun u m c' as' s' n' hu hq => ?_) fun x => x.elim
  clear CO G SO XK ac ac' h hi1 hi2 hi3 hr hr3 ini ms
  obtain ⟨rfl, hq⟩ := hq
  have e : u = .none := by simp only [RepM, RepP] at hu; exact hu.1
  have n2 := n.trans (n'.to n.cond hfr) (n.there st)
  refine ⟨e, hk _ _ c' as' s' n2 ?_ hq⟩
  clear E Sp e hfr hk hq hu n n2 st u
  obtain ⟨bs, eb, _⟩ := n'.ext
  clear K Q n' vs
  subst eb
  have := self.more (bs := bs)
  simp only [RV, RepM] at this ⊢
  exact this
set_option tactic.hygienic true in
/-- a call, whatever is called -/
theorem call_keeps (G : X.Good) (CC : ClassesOK X) {Sp : Spec} (SO : SpecOK X Sp) {f : MV} {v : Value} {ms : List MV} {Q : MV → AS → Prop} (h : vcCall Sp r X.ns f ms Xc c Q) (st : St X env names c as s.heap) (hv : RepM X as s.heap v f) : Keeps (model X.prog X.w) s.heap v := by
  unfold vcCall at h
  split at h
  · rename_i k
    simp only [RepM, RepP] at hv
    unfold calV at hv
    split at hv <;> first | (cases hv; first | exact .builtin | exact .type) | cases hv
  · rename_i a
    simp only [RepM, RepP] at hv
    exact fn_keeps SO h.2 st.base (.inl ⟨h.1, hv⟩)
  · rename_i C
    simp only [RepM, RepP] at hv
    clear SO
    subst hv
    obtain ⟨ini, hi, _⟩ := onP_elim h
    have hC := initOf_cls hi
    exact .K (st.base.keepK G) (CC C hC).keep
  · rename_i j
    split at h
    · rename_i k hj
      simp only [RepM] at hv
      clear CC G
      obtain ⟨a, ha, rfl⟩ := hv
      obtain ⟨o, ob, h1, h2, h3, h4⟩ := st.store.at ha
      rw [hj] at h1
      clear h2 ha hj j
      cases h1
      exact fn_keeps SO h st.base (.inr ⟨k, a, ob, rfl, rfl, h3, h4⟩)
    · exact h.elim
  · exact h.elim
set_option tactic.hygienic true in
theorem pm_call (G : X.Good) (CC : ClassesOK X) {Sp : Spec} (SO : SpecOK X Sp) {f : MV} {v : Value} {vs : List Value} {ms : List MV} {Q : MV → AS → Prop} (h : vcCall Sp r X.ns f ms Xc c Q) :
    SemP X r env names Xc (fun as h => RepM X as h v f ∧ RepMs X as h vs ms) (RV X) (call v vs) c Q := by
  intro A as s K E ac st ⟨hv, hr⟩ hk hx
  unfold vcCall at h
  split at h
  · rename_i k
    simp only [RepM, RepP] at hv
    clear CC SO Sp
    obtain ⟨⟨m, σ'⟩, hp, hq⟩ := onP_elim h
    exact (pm_prim G hv hp hq) A as s K E ac st hr hk hx
  · rename_i a
    simp only [RepM, RepP] at hv
    exact (sem_fn G SO h.2) A as s K E ac st ⟨.inl ⟨h.1, hv⟩, hr⟩ hk hx
  · rename_i C
    simp only [RepM, RepP] at hv
    subst hv
    obtain ⟨ini, hi, h3, hq⟩ := onP_elim h
    exact (sem_new G CC SO hi h3 hq) A as s K E ac st hr hk hx
  · rename_i j
    split at h
    · rename_i k hj
      simp only [RepM] at hv
      clear CC
      obtain ⟨a, ha, rfl⟩ := hv
      obtain ⟨o, ob, h1, h2, h3, h4⟩ := st.store.at ha
      rw [hj] at h1
      clear h2 ha hj j
      cases h1
      exact (sem_fn G SO h) A as s K E ac st ⟨.inr ⟨k, a, ob, rfl, rfl, h3, h4⟩, hr⟩ hk hx
    · exact h.elim
  · exact h.elim
noncomputable def NotAttr (f : Expr) : Prop := ∀ args pos env, eval (.Call f args [] pos) env = (do callWith pos (← eval f env) [] (backTo pos (starEach args env)) (backToKw pos (keywordEach [] env)))
theorem sem_call (G : X.Good) (CC : ClassesOK X) {Sp : Spec} (SO : SpecOK X Sp) {f : Expr} {args : List Expr} {pos} (hs : args.any isStar = false) (hf : NotAttr f) {Q : MV → AS → Prop} {Q1 : MV → AS → Prop} {Q2 : MV → List MV → AS → Prop}
    (h1 : SemE X r env names Xc (eval f env) c Q1) (h2 : ∀ v c1, Q1 v c1 → SemL X r env names Xc (spliced (backTo pos (starEach args env))) c1 (Q2 v)) (h3 : ∀ f ms c2, Q2 f ms c2 → vcCall Sp r X.ns f ms Xc c2 Q) :
    SemE X r env names Xc (eval (.Call f args [] pos) env) c Q := by
  intro A as s K E ac st _ hk hx
  rw [hf]
  refine wpAny_bind (h1.next st (.refl ac st) trivial (fun v m c1 as1 s1 n1 z_ r1 q1 => ?_) hx)
  refine callWith_gen (star_plain hs pos) ((h2 m c1 q1).next st n1 trivial (fun vs ms c2 as2 s2 n2 n2' r2 q2 => ?_) hx)
  have hv := n2'.rep n1.cond n1.st r1
  refine ⟨call_keeps G CC SO (h3 m ms c2 q2) n2.st hv, ?_⟩
  rw [List.nil_append]
  exact (pm_call G CC SO (h3 m ms c2 q2)).next st n2 ⟨hv, r2⟩ (fun a b c' as' s' n' z_ hr hq => hk a b c' as' s' n' hr hq) hx
noncomputable def SemM (X : Cx) (r : Nat) (env : Env) (names : Names) (Xc : Prop) (pos : Pos) (args : List Expr) (x : Str) (v : Value) (m : MV) (c : AS) (Q : MV → AS → Prop) : Prop :=
  ∀ (A : Around) (as : List Addr) (s : Shared) (K : Value → Shared → Prop) (E : Value → Shared → Prop), ACond X A r as s.heap → St X env names c as s.heap → RepM X as s.heap v m →
    (∀ a b c' as' s', At X r env names A as s c' as' s' → RepM X as' s'.heap a b → Q b c' → K a s') →
    (Xc → ∀ e s', ThrownAt X env A as s e s' → E (.ref e) s') →
    ∀ pl, wpAny (model X.prog X.w) A (getMethod v x pl) (fun fx s2 => wpAny (model X.prog X.w) A (callWith pos fx.1 fx.2 (backTo pos (starEach args env)) []) K E s2) E s
theorem S_31 : S 31 = Str.ofString "append" := by decide +kernel
theorem S_25 : S 25 = Str.ofString "pop" := by decide +kernel
theorem S_26 : S 26 = Str.ofString "extend" := by decide +kernel
theorem S_44 : S 44 = Str.ofString "get" := by decide +kernel
theorem meth_blt {T id : String} {x : Str} (pa : PlainAttrs T) (slot : Slot T x id) (hty : typeOf (.builtin id) = pure (.type "method_descriptor")) {args : List Expr} {pos : Pos} (hs : args.any isStar = false) {Q : MV → AS → Prop} {Q2 : List MV → AS → Prop} {m : MV}
    (hL : SemL X r env names Xc (spliced (backTo pos (starEach args env))) c Q2)
    (hS : ∀ v vs ms c2, Q2 ms c2 → SemP X r env names Xc (fun as h => RepM X as h v m ∧ RepMs X as h vs ms) (RV X) (call (.builtin id) (v :: vs)) c2 Q) {v : Value}
    (hv : ∀ as s, St X env names c as s → RepM X as s v m → ∃ a ob, v = .ref a ∧ s.get? a = some ob ∧ ob.cls = .type T ∧ ob.dict = none) :
    SemM X r env names Xc pos args x v m c Q := by
  intro A as s K E ac st rv hk hx pl
  have q_ := hv as s.heap st rv
  clear hv
  obtain ⟨a, ob, rfl, ho, hc, hd⟩ := q_
  refine getMethod_builtin (s := s) ⟨ob, ho, hc⟩ pa slot hty (fun b e => by cases e; exact ⟨ob, ho, hd⟩) ?_
  have n1 := At.refl ac st
  refine callWith_gen (star_plain hs pos) (hL.next st n1 trivial (fun vs ms c2 as2 s2 n2 n2' r2 q2 => ⟨.builtin, ?_⟩) hx)
  exact (hS _ vs ms c2 q2).next st n2 ⟨n2'.rep n1.cond n1.st rv, r2⟩ (fun a b c' as' s' n' z_ hr hq => hk a b c' as' s' n' hr hq) hx
theorem meth_fn (G : X.Good) (CC : ClassesOK X) {Sp : Spec} (SO : SpecOK X Sp) {k : Nat} (hlo : k < nStr) {C d j f : Nat} {es : List (Nat × MV)} {args : List Expr} {pos : Pos} (hs : args.any isStar = false) {Q : MV → AS → Prop} {Q2 : List MV → AS → Prop}
    (hj : c.σ[j]? = some (.inst C d)) (hd : c.σ[d]? = some (.dct es)) (hnone : (es.lookup k).isNone = true) (hf : methOf C k = some f)
    (hL : SemL X r env names Xc (spliced (backTo pos (starEach args env))) c Q2) (h3 : ∀ ms c2, Q2 ms c2 → vcFn Sp r f (.loc j :: ms) Xc c2 Q) {v : Value} :
    SemM X r env names Xc pos args (S k) v (.loc j) c Q := by
  intro A as s K E ac st rv hk hx pl
  have q_ := st.inst hj hd rv
  clear hd hj
  obtain ⟨xx, dx, des, n, rfl, _, _, ho, hes, I⟩ := q_
  have hC := methOf_cls hf
  have CO := CC C hC
  clear CC hC ho
  obtain ⟨hf1, hf2, hf3⟩ := CO.meth k f hf
  have hg := repEs_getL hlo hes
  have hg2 : getL (S k) des = some none := by
    clear CO G I SO ac h3 hL hes hf hf1 hf2 hf3 hk hlo hs hx n pl pos rv st
    cases q : List.lookup k es with
    | some mv => rw [q] at hnone; cases hnone
    | none => rw [q] at hg; exact hg
  have hsh : shadowIn (some (dictOf des n)) (S k) = some false := by
    show (getL (S k) des).map (·.isSome) = some false
    rw [hg2]; rfl
  have n1 := At.refl ac st
  refine method_fn (st.base.keepK G) I CO.ga CO.gt hf2 hf3 hsh ?_
  refine callWith_gen (star_plain hs pos) (hL.next st n1 trivial (fun vs ms c2 as2 s2 n2 n2' r2 q2 => ?_) hx)
  have hv := h3 ms c2 q2
  have hfa : FnAt X s2.heap f (.ref f) := .inl ⟨hf1, rfl⟩
  refine ⟨fn_keeps SO hv n2.st.base hfa, ?_⟩
  exact (sem_fn G SO hv).next st n2 ⟨hfa, by simp only [List.singleton_append, RepMs]; exact ⟨_, _, rfl, n2'.rep n1.cond n1.st rv, r2⟩⟩ (fun a b c' as' s' n' z_ hr hq => hk a b c' as' s' n' hr hq) hx
set_option tactic.hygienic true in
/-- getMethod and the call -/
theorem meth_any (G : X.Good) (CC : ClassesOK X) {Sp : Spec} (SO : SpecOK X Sp) {k : Nat} (hlo : k < nStr) {args : List Expr} {pos : Pos} (hs : args.any isStar = false) {Q : MV → AS → Prop} {Q2 : MK → List MV → AS → Prop} {m : MV}
    (h2 : onP (methKind c.σ m k) fun mk => SemL X r env names Xc (spliced (backTo pos (starEach args env))) c (Q2 mk))
    (h3 : ∀ mk ms c2, Q2 mk ms c2 → match mk with | .fn a => vcFn Sp r a (m :: ms) Xc c2 Q | mk => onP (vMeth c2.σ mk m ms) fun q => Q q.1 ⟨c2.ρ, q.2⟩) {v : Value} :
    SemM X r env names Xc pos args (S k) v m c Q := by
  obtain ⟨mk, hmk, hL⟩ := onP_elim h2
  unfold methKind at hmk
  split at hmk
  · rename_i j
    split at hmk
    · rename_i l hj
      have hv : ∀ as s, St X env names c as s → RepM X as s v (.loc j) → ∃ a ob, v = .ref a ∧ s.get? a = some ob ∧ ob.cls = .type "list" ∧ ob.dict = none := fun as h st rv => by
        clear CC G SO h2 h3 hL hlo hmk hs k mk pos
        have q_ := St.lst (s := { heap := h }) st hj rv
        clear Q Q2 Sp args hj rv st
        obtain ⟨a, ws, n, rfl, _, _, ho, hr⟩ := q_
        exact ⟨a, _, rfl, ho, rfl, rfl⟩
      split at hmk
      · rename_i hk31
        clear CC SO h2 hj hlo l
        cases hmk
        subst hk31
        rw [S_31]
        exact meth_blt F.plainAttrs_list F.slot_list_append F.type_list_append hs hL (fun v vs ms c2 q => by
          clear hL hs pos
          obtain ⟨⟨x', σ'⟩, hv, hq⟩ := onP_elim (h3 .app ms c2 q)
          exact pm_app G hv hq) hv
      · split at hmk
        · rename_i hk25
          clear CC SO h2 hj hlo l
          cases hmk
          subst hk25
          rw [S_25]
          exact meth_blt F.plainAttrs_list F.slot_list_pop F.type_list_pop hs hL (fun v vs ms c2 q => by
            clear hL hs pos
            obtain ⟨⟨x', σ'⟩, hv, hq⟩ := onP_elim (h3 .pop ms c2 q)
            exact pm_pop G hv hq) hv
        · split at hmk
          · rename_i hk26
            clear CC SO h2 hj hlo l
            cases hmk
            subst hk26
            rw [S_26]
            exact meth_blt F.plainAttrs_list F.slot_list_extend F.type_list_extend hs hL (fun v vs ms c2 q => by
              clear hL hs pos
              obtain ⟨⟨x', σ'⟩, hv, hq⟩ := onP_elim (h3 .ext ms c2 q)
              exact pm_ext G hv hq) hv
          · clear CC G SO h2 h3 hL hj hlo hs hv l
            cases hmk
    · rename_i es hj
      have hv : ∀ as s, St X env names c as s → RepM X as s v (.loc j) → ∃ a ob, v = .ref a ∧ s.get? a = some ob ∧ ob.cls = .type "dict" ∧ ob.dict = none := fun as h st rv => by
        clear CC G SO h2 h3 hL hlo hmk hs k mk pos
        have q_ := St.dct (s := { heap := h }) st hj rv
        clear Q Q2 Sp args hj rv st
        obtain ⟨a, ws, n, rfl, _, _, ho, hr⟩ := q_
        exact ⟨a, _, rfl, ho, rfl, rfl⟩
      split at hmk
      · rename_i hk44
        clear CC SO h2 hj hlo
        cases hmk
        clear es
        subst hk44
        rw [S_44]
        exact meth_blt F.plainAttrs_dict F.slot_dict_get F.type_dict_get hs hL (fun v vs ms c2 q => by
          clear hL hs pos
          obtain ⟨⟨x', σ'⟩, hv, hq⟩ := onP_elim (h3 .get ms c2 q)
          exact pm_dget G hv hq) hv
      · clear CC G SO h2 h3 hL hj hlo hs hv
        cases hmk
    · rename_i C d hj
      split at hmk
      · rename_i es hd
        split at hmk
        · rename_i hnone
          clear h2
          obtain ⟨f, hf, e⟩ := Option.map_eq_some_iff.mp hmk
          clear hmk
          cases e
          exact meth_fn G CC SO hlo hs hj hd hnone hf hL (fun ms c2 q => h3 (.fn f) ms c2 q)
        · clear CC G SO h2 h3 hL hd hj hlo hs
          cases hmk
      · clear CC G SO h2 h3 hL hj hlo hs
        cases hmk
    · clear CC G SO h2 h3 hL hlo hs
      cases hmk
  · clear CC G SO h2 h3 hL hlo hs
    cases hmk
theorem sem_meth (G : X.Good) (CC : ClassesOK X) {Sp : Spec} (SO : SpecOK X Sp) {o : Expr} {x : Str} {k : Nat} (hx' : codeOf x = some k) {args : List Expr} {apos pos : Pos} (hb : isBareCall o = false) (hl : (apos.endLine == pos.line) = true) (hn : args.length ≤ 9) (hs : args.any isStar = false)
    {Q : MV → AS → Prop} {Q1 : MV → AS → Prop} {Q2 : MV → MK → List MV → AS → Prop}
    (h1 : SemE X r env names Xc (eval o env) c Q1) (h2 : ∀ v c1, Q1 v c1 → onP (methKind c1.σ v k) fun m => SemL X r env names Xc (spliced (backTo pos (starEach args env))) c1 (Q2 v m))
    (h3 : ∀ v m ms c2, Q2 v m ms c2 → match m with | .fn a => vcFn Sp r a (v :: ms) Xc c2 Q | m => onP (vMeth c2.σ m v ms) fun q => Q q.1 ⟨c2.ρ, q.2⟩) :
    SemE X r env names Xc (eval (.Call (.Attribute o x apos) args [] pos) env) c Q := by
  obtain ⟨hlo, he, _⟩ := List.findIdx?_eq_some_iff_getElem.mp hx'
  have ex : x = S k := by rw [S_at hlo, ← eq_of_beq he]
  clear he hx'
  subst ex
  intro A as s K E ac st _ hk hx
  refine call_attr hb hl hn hs (h1.next st (.refl ac st) trivial (fun v m c1 as1 s1 n1 z_ r1 q1 => ?_) hx)
  exact (meth_any G CC SO hlo hs (h2 m c1 q1) (fun mk ms c2 q => h3 m mk ms c2 q)) A as1 s1 K E n1.cond n1.st r1 (fun a b c' as' s' n' hr hq => hk a b c' as' s' (n1.trans n' (n1.there st)) hr hq) fun x e s' t => hx x e s' (t.after st n1)
end
end Mine
namespace Mine
/-! ## iterators -/
section
variable {X : Cx} {r : Nat} {env : Env} {names : Names} {Xc : Prop} {A : Around} {as as' : List Addr} {s s' : Shared} {c c' : AS}
/-- an iterator: over a tuple, or over a list of the store -/
noncomputable def IterAt (X : Cx) (as : List Addr) (h : Heap) (src : MV) (l : List PV) (it : Addr) (i : Nat) : Prop :=
  (∃ t vs n, src = .p (.tup l) ∧ h.get? t = some (tupO vs n) ∧ RepPs X h vs l ∧ h.IsTupleIter it t i) ∨ (∃ j a, src = .loc j ∧ as[j]? = some a ∧ h.IsListIter it a i)
theorem iter_notImm {as : List Addr} {h : Heap} {src : MV} {l : List PV} {it : Addr} {i : Nat} (I : IterAt X as h src l it i) : ∃ o, h.get? it = some o ∧ ¬ Imm o ∧ ¬ FrObj o := by
  rcases I with ⟨t, vs, n, _, _, _, o, e, hc, hd⟩ | ⟨j, a, _, _, o, e, hc, hd⟩
  · exact ⟨o, e, nImm_fields hd rfl (fun _ _ => nofun), nFr_fields hd⟩
  · exact ⟨o, e, nImm_fields hd rfl (fun _ _ => nofun), nFr_fields hd⟩
/-- the iterator stands over a step that keeps it -/
theorem IterAt.keep {bs : List Addr} {h h' : Heap} {src : MV} {l : List PV} {it : Addr} {i : Nat} (I : IterAt X as h src l it i) (k : TKeep h h') (e : ∀ o, h.get? it = some o → h'.get? it = some o) : IterAt X (as ++ bs) h' src l it i := by
  rcases I with ⟨t, vs, n, h1, h2, h3, o, q1, q2⟩ | ⟨j, a, h1, h2, o, q1, q2⟩
  · exact .inl ⟨t, vs, n, h1, k _ _ h2 rfl, h3.keep k, o, e o q1, q2⟩
  · exact .inr ⟨j, a, h1, by rw [List.getElem?_append_left (List.getElem?_eq_some_iff.mp h2).1]; exact h2, o, e o q1, q2⟩
/-- an object that nobody knows is changed -/
theorem At.poke (G : X.Good) (n : At X r env names A as s c' as' s') {it : Addr} {h' : Heap} {o : Obj} (hnew : s.heap.get? it = none) (hlo : X.g1.objs.size ≤ it) (hL : it ≠ env.locals) (hA : it ∉ as') (ho : s'.heap.get? it = some o) (hn : ¬ Imm o) (hf : ¬ FrObj o)
    (k : ∀ b o, b ≠ it → s'.heap.get? b = some o → h'.get? b = some o) : At X r env names A as s c' as' { s' with heap := h' } ∧ TKeep s'.heap h' := by
  have tk : TKeep s'.heap h' := fun b x e i => k b x (fun q => by subst q; rw [ho] at e; cases e; exact hn i) e
  have hfr : ∀ b ∈ frAddrs A, b ≠ it := fun b hb q => by
    clear G hA hL hlo hn hnew k tk
    subst q
    clear h'
    obtain ⟨o', e, f⟩ := n.cond.frObj hb
    rw [ho] at e
    clear hb ho n
    cases e
    exact hf f
  have hpt : PT ≠ it := fun q => by subst q; exact absurd G.pt (Nat.not_lt.mpr hlo)
  clear G hf hn ho
  obtain ⟨m, F⟩ := n.st.frame
  have base : Base X h' := ⟨fun b o e => k _ _ (fun q => by subst q; exact absurd (Heap.lt_size e) (Nat.not_lt.mpr hlo)) (n.st.base.1 _ _ e), n.st.base.2.of (by obtain ⟨ps, e, _⟩ := n.st.base.2; rw [e]; exact k _ _ hpt e) tk⟩
  refine ⟨⟨⟨n.cond.handled, n.cond.depth, n.cond.units, ?_, n.cond.off, n.cond.high⟩, ⟨base, ⟨m, ⟨?_, F.high, F.off, F.len, fun i mv x kd e q => (F.var i mv x kd e q).keep tk⟩⟩, n.st.store.1, n.st.store.2.1, fun i o e => ?_⟩, ?_, n.ext, ?_⟩, tk⟩
  · clear F base hA hL hlo hnew hpt m o tk
    obtain ⟨l, hl, hff⟩ := n.cond.frames
    refine ⟨l, hl, fun e he => ?_⟩
    clear n
    obtain ⟨h1, L, oL, h2, h3, h4⟩ := hff e he
    refine ⟨h1, L, oL, h2, k _ _ (hfr L ?_) h3, h4⟩
    unfold frAddrs
    rw [hl]
    exact List.mem_filterMap.mpr ⟨e, he, h2⟩
  · clear base hA hfr hlo hnew hpt n o tk
    obtain ⟨oL, es, ep, e, q⟩ := F.ns
    exact ⟨oL, es, ep, k _ _ (Ne.symm hL) e, q⟩
  · clear F base hL hfr hlo hnew hpt m
    obtain ⟨a, ob, h1, h2, h3, h4⟩ := n.st.store.2.2 i o e
    exact ⟨a, ob, h1, h2, k _ _ (fun q => hA (q ▸ List.mem_of_getElem? h1)) h3, h4.keep tk⟩
  · intro b o e nO nP
    clear F base hA hL hfr hlo hpt m tk
    obtain ⟨sl, e', q⟩ := n.kp b o e nO nP
    exact ⟨sl, k _ _ (fun q => by subst q; rw [hnew] at e; cases e) e', q⟩
  · clear F base hA hL hfr hlo hnew hpt k m o
    obtain ⟨h, tk, e⟩ := n.same
    exact ⟨h', tk, by rw [e]⟩
theorem iterOf_loc {σ : List MO} {j : Nat} {l : List PV} (h : iterOf σ (.loc j) = some l) : σ[j]? = some (.lst l) := by
  simp only [iterOf] at h
  split at h
  · rename_i e
    cases h
    exact e
  · cases h
set_option tactic.hygienic true in
theorem pm_iter (G : X.Good) {src : MV} {l : List PV} {v : Value} {K : Value → Shared → Prop} {E : Value → Shared → Prop} (ac : ACond X A r as s.heap) (st : St X env names c as s.heap) (hv : RepM X as s.heap v src) (hl : iterOf c.σ src = some l)
    (hk : ∀ h', (∀ b o, s.heap.get? b = some o → h'.get? b = some o) → IterAt X as h' src l s.heap.objs.size 0 → h'.objs.size = s.heap.objs.size + 1 → K (.ref s.heap.objs.size) { s with heap := h' }) : wpAny (model X.prog X.w) A (pyIter v) K E s := by
  unfold iterOf at hl
  split at hl
  · clear G ac st
    cases hl
    simp only [RepM, RepP] at hv
    obtain ⟨t, vs, n, rfl, ho, hr⟩ := hv
    have kk : ∀ (o' : Obj) b o, s.heap.get? b = some o → (s.heap.push o').get? b = some o := fun o' b o e => Heap.get?_push_of_some _ e
    exact wpAny_pyIter_tuple (tupO_is ho) (hk _ (kk _) (.inl ⟨t, vs, n, rfl, kk _ _ _ ho, hr.keep (tkeep_all (kk _)), _, Heap.get?_push_size _ rfl, rfl, rfl⟩) (Heap.size_push ..))
  · rename_i j
    split at hl
    · rename_i l' hj
      clear G ac
      cases hl
      have q_ := st.lst hj hv
      clear hj hv st
      obtain ⟨a, vs, n, rfl, ha, _, ho, hr⟩ := q_
      have kk : ∀ (o' : Obj) b o, s.heap.get? b = some o → (s.heap.push o').get? b = some o := fun o' b o e => Heap.get?_push_of_some _ e
      exact wpAny_pyIter_list (lstO_is ho) (hk _ (kk _) (.inr ⟨j, a, rfl, ha, _, Heap.get?_push_size _ rfl, rfl, rfl⟩) (Heap.size_push ..))
    · clear G ac hk hv st
      cases hl
  · clear G ac hk hv st
    cases hl
theorem pm_next {src : MV} {l : List PV} {it : Addr} {i : Nat} {K : Option Value → Shared → Prop} {E : Value → Shared → Prop} (ac : ACond X A r as s.heap) (st : St X env names c as s.heap) (I : IterAt X as s.heap src l it i) (hl : iterOf c.σ src = some l)
    (h0 : l[i]? = none → ∀ h', (∀ b o, b ≠ it → s.heap.get? b = some o → h'.get? b = some o) → K none { s with heap := h' })
    (h1 : ∀ x, l[i]? = some x → ∀ v h', (∀ b, b ≠ it → h'.get? b = s.heap.get? b) → RepP X s.heap v x → (TKeep s.heap h' → IterAt X as h' src l it (i + 1)) → K (some v) { s with heap := h' }) :
    wpAny (model X.prog X.w) A (pyNext (.ref it)) K E s := by
  rcases I with ⟨t, vs, n, rfl, ho, hr, hit⟩ | ⟨j, a, rfl, ha, hit⟩
  · clear hl st
    cases hx : l[i]? with
    | none =>
      refine wpAny_pyNext_tuple_end ac.handled hit (tupO_is ho) (by rw [List.getElem?_toArray]; rw [List.getElem?_eq_none_iff] at hx ⊢; rw [hr.len]; exact hx) fun h' hx' => h0 hx h' fun b o nb e => hx' b o nb e
    | some x =>
      clear ac h0
      obtain ⟨v, hv, hrv⟩ := hr.get hx
      exact wpAny_pyNext_tuple_item hit (tupO_is ho) (by simpa using hv) fun h' hi hs => h1 x hx v h' (fun b nb => hs.2 b nb) hrv fun tk => .inl ⟨t, vs, n, rfl, tk _ _ ho rfl, hr.keep tk, hi⟩
  · have hj := iterOf_loc hl
    clear hl
    obtain ⟨a', vs, n, e, ha', _, ho, hr⟩ := st.lst hj (v := .ref a) (by simp only [RepM]; exact ⟨a, ha, rfl⟩)
    clear ha' hj st
    cases e
    cases hx : l[i]? with
    | none =>
      refine wpAny_pyNext_list_end ac.handled hit (lstO_is ho) (by rw [List.getElem?_toArray]; rw [List.getElem?_eq_none_iff] at hx ⊢; rw [hr.len]; exact hx) fun h' hx' => h0 hx h' fun b o nb e => hx' b o nb e
    | some x =>
      clear ac h0
      obtain ⟨v, hv, hrv⟩ := hr.get hx
      exact wpAny_pyNext_list_item hit (lstO_is ho) (by simpa using hv) fun h' hi hs => h1 x hx v h' (fun b nb => hs.2 b nb) hrv fun tk => .inr ⟨j, a, rfl, ha, hi⟩
end
end Mine
namespace Mine
/-! ## comprehensions -/
noncomputable def clGo (cells : List (Str × Addr)) : Names → List (Str × Addr) → List (Str × Addr) := fun y1_ y2_ => match y1_, y2_ with
  | [], acc => acc
  | (x, k) :: r, acc => clGo cells r (if k == .free then (match cells.lookup x with | some a => (x, a) :: acc | none => acc) else acc)
theorem closure_go {env : Env} {f : Str × NameKind → List (Str × Addr) → Sem (ForInStep (List (Str × Addr)))}
    (hf : ∀ x k r, f (x, k) r = if (k == NameKind.free) = true then (do let a ← cellOf env x; pure (.yield ((x, a) :: r))) else pure (.yield r)) :
    ∀ (names : Names) (cs : List (Str × Addr)), (∀ x, (x, NameKind.free) ∈ names → ∃ a, env.cells.lookup x = some a) → forIn names cs f = pure (clGo env.cells names cs)
  | [], cs, z1_ => rfl
  | (x, k) :: r, cs, h => by
    rw [List.forIn_cons, hf, clGo]
    by_cases hk : (k == NameKind.free) = true
    · have hk' : k = .free := by simpa using hk
      subst hk'
      obtain ⟨a, ha⟩ := h x (.head _)
      have hc : cellOf env x = pure a := by unfold cellOf; rw [ha]
      rw [if_pos hk, if_pos hk, hc, ha]
      exact closure_go hf r ((x, a) :: cs) fun y hy => h y (.tail _ hy)
    · rw [if_neg hk, if_neg hk]
      exact closure_go hf r cs fun y hy => h y (.tail _ hy)
theorem closure_is {scope : Scope} {env : Env} (h : ∀ x, (x, NameKind.free) ∈ scope.names → ∃ a, env.cells.lookup x = some a) : closureFor scope env = pure (clGo env.cells scope.names []) := by
  simp only [closureFor]
  rw [closure_go (fun z_ z_ z_ => rfl) scope.names [] h]
  rfl
theorem clGo_val {cells : List (Str × Addr)} : ∀ (names : Names) (acc : List (Str × Addr)), (∀ p ∈ acc, cells.lookup p.1 = some p.2) → ∀ p ∈ clGo cells names acc, cells.lookup p.1 = some p.2 := fun y1_ y2_ y3_ => match y1_, y2_, y3_ with
  | [], acc, h => h
  | (x, k) :: r, acc, h => by
    rw [clGo]
    refine clGo_val r _ ?_
    clear r y1_ y3_
    split
    · clear y2_
      split
      · rename_i a e
        intro p hp
        rcases List.mem_cons.mp hp with rfl | hp
        · exact e
        · exact h p hp
      · exact h
    · exact h
theorem clGo_acc {cells : List (Str × Addr)} : ∀ (names : Names) (acc : List (Str × Addr)), ∀ p ∈ acc, p ∈ clGo cells names acc := fun y1_ y2_ y3_ y4_ => match y1_, y2_, y3_, y4_ with
  | [], acc, p, h => h
  | (x, k) :: r, acc, p, h => by
    rw [clGo]
    refine clGo_acc r _ p ?_
    clear r y1_ y4_
    split
    · clear y2_ y3_
      split
      · exact .tail _ h
      · exact h
    · exact h
theorem clGo_mem {cells : List (Str × Addr)} {x : Str} {a : Addr} (e : cells.lookup x = some a) : ∀ (names : Names) (acc : List (Str × Addr)), (x, NameKind.free) ∈ names → (x, a) ∈ clGo cells names acc := fun y1_ y2_ y3_ => match y1_, y2_, y3_ with
  | (y, k) :: r, acc, h => by
    rw [clGo]
    clear y2_ y3_
    have q_ := List.mem_cons.mp h
    clear y1_
    rcases q_ with q | h
    · clear h
      cases q
      rw [e]
      exact clGo_acc r _ _ (by simp)
    · exact clGo_mem e r _ h
theorem lookup_of_vals {cells l : List (Str × Addr)} (h : ∀ p ∈ l, cells.lookup p.1 = some p.2) {x : Str} {a : Addr} (hm : (x, a) ∈ l) : l.lookup x = some a := by
  induction l with
  | nil => cases hm
  | cons p r ih =>
    obtain ⟨y, b⟩ := p
    rw [List.lookup_cons]
    by_cases e : x = y
    · clear ih
      subst e
      simp only [beq_self_eq_true]
      have h1 := h (x, b) (.head _)
      have h2 := h (x, a) hm
      exact h1.symm.trans h2 
    · have : (x == y) = false := beq_eq_false_iff_ne.mpr e
      simp only [this]
      refine ih (fun p hp => h p (.tail _ hp)) ?_
      clear h ih this
      have q_ := List.mem_cons.mp hm
      clear cells hm
      rcases q_ with q | q
      · cases q; exact absurd rfl e
      · exact q
theorem nodupS_of : ∀ {l : List Str}, nodupS l = true → l.Nodup := @fun y1_ y2_ => match y1_, y2_ with
  | [], z1_ => List.nodup_nil
  | i :: r, h => by
    simp only [nodupS, Bool.and_eq_true, Bool.not_eq_true'] at h
    refine List.nodup_cons.mpr ⟨fun hm => ?_, nodupS_of h.2⟩
    have := List.elem_eq_true_of_mem hm
    rw [h.1] at this
    clear h hm i r y2_
    cases this
theorem lookup_mem {x : Str} {k : NameKind} : ∀ {names : Names}, (names.map (·.1)).Nodup → (x, k) ∈ names → names.lookup x = some k := @fun y1_ y2_ y3_ => match y1_, y2_, y3_ with
  | (y, j) :: r, nd, h => by
    simp only [List.map_cons, List.nodup_cons] at nd
    rw [List.lookup_cons]
    clear y2_ y3_
    have q_ := List.mem_cons.mp h
    clear y1_
    rcases q_ with q | h
    · clear h nd
      cases q; simp
    · have hne : x ≠ y := fun e => nd.1 (e ▸ List.mem_map.mpr ⟨(x, k), h, rfl⟩)
      have : (x == y) = false := beq_eq_false_iff_ne.mpr hne
      simp only [this]
      exact lookup_mem nd.2 h
theorem mem_lookup {x : Str} {k : NameKind} : ∀ {names : Names}, names.lookup x = some k → (x, k) ∈ names := @fun y1_ y2_ => match y1_, y2_ with
  | (y, j) :: r, h => by
    rw [List.lookup_cons] at h
    split at h
    · rename_i e
      clear y2_
      cases h
      rw [eq_of_beq e]
      exact .head _
    · exact .tail _ (mem_lookup h)
structure CompOK (ns : Names) (scope : Scope) : Prop where
  kind : scope.kind = .function
  nodup : (scope.names.map (·.1)).Nodup
  kinds : ∀ p ∈ scope.names, p.2 = .local ∨ (p.2 = .free ∧ ns.lookup p.1 = some .cell) ∨ p.2 = .globalImplicit
theorem compOK_of {ns : Names} {scope : Scope} (h : compOK ns scope = true) : CompOK ns scope := by
  simp only [compOK, Bool.and_eq_true, beq_iff_eq] at h
  refine ⟨h.1.1, nodupS_of h.1.2, fun p hp => ?_⟩
  have := List.all_eq_true.mp h.2 p hp
  simp only [Bool.or_eq_true, Bool.and_eq_true, beq_iff_eq] at this
  clear h hp scope
  rcases this with (q | q) | q
  · exact .inl q
  · exact .inr (.inl q)
  · exact .inr (.inr q)
section
variable {X : Cx} {r : Nat} {env : Env} {names : Names} {Xc : Prop} {A : Around} {as as' : List Addr} {s s' : Shared} {c c' : AS}
theorem relabel_is (E : EnvOK env names) (scope : Scope) : (relabel scope env).names = ownNames names scope.names := by
  unfold relabel ownNames
  refine List.map_congr_left fun p hp => ?_
  clear hp scope
  obtain ⟨x, k⟩ := p
  have h1 : (env.scope.kind == ScopeKind.function) = true := by rw [E.kind]; rfl
  have h2 := kind_of E x
  dsimp only
  rw [h1, h2, Bool.and_true]
  split <;> rfl
theorem own_get {ns inner : Names} {j : Nat} {x : Str} {k : NameKind} (h : (ownNames ns inner)[j]? = some (x, k)) : ∃ k', inner[j]? = some (x, k') ∧ k = if k' == .free && ns.lookup x == some .cell then .cell else k' := by
  unfold ownNames at h
  rw [List.getElem?_map, Option.map_eq_some_iff] at h
  obtain ⟨⟨y, k'⟩, h1, h2⟩ := h
  cases h2
  exact ⟨k', h1, rfl⟩
theorem own_lookup {ns inner : Names} {x : Str} : (ownNames ns inner).lookup x = (inner.lookup x).map fun k' => if k' == .free && ns.lookup x == some .cell then .cell else k' := by
  unfold ownNames
  induction inner with
  | nil => rfl
  | cons p r ih =>
    obtain ⟨y, k⟩ := p
    rw [List.map_cons, List.lookup_cons, List.lookup_cons]
    by_cases e : x = y
    · clear ih
      subst e; simp
    · have : (x == y) = false := beq_eq_false_iff_ne.mpr e
      simp only [this, ih]
theorem compEnv_ok (E : EnvOK env names) {scope : Scope} (ok : CompOK names scope) (C : Addr) : EnvOK (compEnvC scope (clGo env.cells scope.names []) C env) (ownNames names scope.names) := by
  refine ⟨relabel_is E scope, ok.kind, E.globals, E.builtins, ?_, fun x hx => ?_⟩
  · unfold ownNames
    rw [List.map_map]
    exact ok.nodup
  · rw [own_lookup, Option.map_eq_some_iff] at hx
    obtain ⟨k', h1, h2⟩ := hx
    have hm := mem_lookup h1
    clear h1
    have q_ := ok.kinds _ hm
    clear ok
    rcases q_ with q | ⟨q, q2⟩ | q
    · dsimp only at q; subst q; simp at h2
    · dsimp only at q q2
      clear h2
      subst q
      obtain ⟨a, ha⟩ := E.cells x q2
      exact ⟨a, lookup_of_vals (clGo_val (cells := env.cells) scope.names [] (fun p hp => nomatch hp)) (clGo_mem ha scope.names [] hm)⟩
    · dsimp only at q; subst q; simp at h2
theorem capR_get : ∀ (cap : List (Nat × Nat)) (R : List (Option MV)) {ρ : List (Option MV)} {j : Nat} {mv : MV}, (cap.foldl (fun r p => r.set p.2 (ρ.getD p.1 none)) R)[j]? = some (some mv) → (∃ i, (i, j) ∈ cap ∧ ρ.getD i none = some mv) ∨ R[j]? = some (some mv) := fun y1_ y2_ y3_ y4_ y5_ y6_ => match y1_, y2_, y3_, y4_, y5_, y6_ with
  | [], R, ρ, j, mv, h => .inr h
  | p :: cap, R, ρ, j, mv, h => by
    rw [List.foldl_cons] at h
    clear y6_
    have q_ := capR_get cap _ h
    clear capR_get h y1_ y2_ y3_ y4_ y5_
    rcases q_ with ⟨i, h1, h2⟩ | h1
    · exact .inl ⟨i, .tail _ h1, h2⟩
    · by_cases e : p.2 = j
      · subst e
        have hl := (List.getElem?_eq_some_iff.mp h1).1
        rw [List.length_set] at hl
        rw [List.getElem?_set_self hl] at h1
        exact .inl ⟨p.1, .head _, Option.some.inj h1⟩
      · rw [List.getElem?_set_ne e] at h1
        exact .inr h1
theorem capR_len : ∀ (cap : List (Nat × Nat)) (R ρ : List (Option MV)), (cap.foldl (fun r p => r.set p.2 (ρ.getD p.1 none)) R).length = R.length := fun y1_ y2_ y3_ => match y1_, y2_, y3_ with
  | [], R, ρ => rfl
  | p :: cap, R, ρ => by rw [List.foldl_cons, capR_len cap, List.length_set]
theorem caps_mem {outer u : Names} : ∀ (inner whole : Names) (d : Nat), (∀ j, inner[j]? = whole[d + j]?) → ∀ {i j : Nat}, (i, j) ∈ capsOf outer u d inner → ∃ x, whole[j]? = some (x, .free) ∧ lvIdx outer x = some i := @fun y1_ y2_ y3_ y4_ y5_ y6_ y7_ => match y1_, y2_, y3_, y4_, y5_, y6_, y7_ with
  | [], whole, d, h, i, j, hm => by simp [capsOf] at hm
  | (x, k) :: r, whole, d, h, i, j, hm => by
    rw [capsOf] at hm
    clear y4_ y7_
    have q_ := List.mem_append.mp hm
    clear y1_ y2_ y3_ y5_ y6_
    rcases q_ with hq | hq
    · clear hm
      split at hq
      · rename_i hk
        have hk' : k = .free := by simpa using hk
        clear hk u
        subst hk'
        cases hi : lvIdx outer x with
        | none => rw [hi] at hq; cases hq
        | some i' =>
          rw [hi, List.mem_singleton] at hq
          cases hq
          exact ⟨x, by have := h 0; simpa using this.symm, hi⟩
      · clear h r u x
        cases hq
    · exact caps_mem r whole (d + 1) (fun j => by have := h (j + 1); rw [List.getElem?_cons_succ] at this; rw [this]; rw [Nat.add_assoc d 1 j, Nat.add_comm 1 j]) hq
end
end Mine
namespace Mine
section
variable {prog : Program} {w : World} {A : Around} {E : Value → Shared → Prop} {R : Result → Shared → Prop} {s : Shared}
theorem compLoop_gen {elt target iter : Expr} {ifs : List Expr} {scope : Scope} {pos : Pos} {it acc : Value} {env : Env} (I : Nat → Shared → Prop)
    (turn : ∀ n s, I n s → wpAny (model prog w) A (pyNext it) (fun r s₁ => match r with
      | none => R (.ok .next) s₁
      | some v => wpAny (model prog w) A (letOwnedTupleGo target it v) (fun z_ s₁' => wpAny (model prog w) A (assign target env v) (fun z_ s₂ =>
          wpAny (model prog w) A (forIn ifs true fun c r => if r = true then do let ok ← isTrue c env (eval c env); pure (ForInStep.yield ok) else pure (ForInStep.yield r)) (fun ok s₃ =>
            if ok = true then wpAny (model prog w) A (eval elt env) (fun x s₄ =>
              wpAny (model prog w) A (call (.builtin "list.append") [acc, x]) (fun z_ s₅ => ∃ m, m < n ∧ I m s₅) (notedBy (model prog w) A env fun e s' => R (.error e) s') s₄) (notedBy (model prog w) A env fun e s' => R (.error e) s') s₃
            else ∃ m, m < n ∧ I m s₃) (notedBy (model prog w) A env fun e s' => R (.error e) s') s₂) (notedBy (model prog w) A env fun e s' => R (.error e) s') s₁') (notedBy (model prog w) A env fun e s' => R (.error e) s') s₁) (notedBy (model prog w) A env fun e s' => R (.error e) s') s)
    (n : Nat) (h : I n s) :
    codeAny (model prog w) A (.compLoop (.ListComp elt [⟨target, iter, ifs, 0⟩] scope pos) 0 it acc env) R s := by
  refine codeAny_loop rfl I (fun n s hI => ?_) n h
  show wpAny _ A ((compTurn (.ListComp elt [⟨target, iter, ifs, 0⟩] scope pos) 0 it acc env).onRaise (fun x => do noteFrame x env; theTreesLotGoes x)) _ _ s
  refine wpAny_noted ?_
  rw [compTurn_list]
  refine wpAny_bind (wpAny_standAt (wpAny_bind (wpAny_mono (turn n s hI) (fun r s₁ h₁ => ?_) fun z_ z_ h' => h')))
  clear h hI s turn
  cases r with
  | none => exact wpAny_pure h₁
  | some v =>
    refine wpAny_bind (wpAny_mono h₁ (fun z_ s₁' h₁' => ?_) fun z_ z_ h' => h')
    refine wpAny_bind (wpAny_mono h₁' (fun z_ s₂ h₂ => wpAny_bind (wpAny_mono h₂ (fun ok s₃ h₃ => ?_) fun z_ z_ h' => h')) fun z_ z_ h' => h')
    clear h₁ h₁' h₂ s₁ s₁' s₂ v
    cases ok with
    | false => exact wpAny_pure ⟨rfl, h₃⟩
    | true =>
      exact wpAny_bind (wpAny_bind (wpAny_mono h₃ (fun x s₄ h₄ => wpAny_bind (wpAny_mono h₄ (fun z_ s₅ h₅ => wpAny_pure (wpAny_pure ⟨rfl, h₅⟩)) fun z_ z_ h' => h')) fun z_ z_ h' => h'))
end
section
variable {X : Cx} {r : Nat} {env : Env} {names : Names} {Xc : Prop} {A : Around} {as as' : List Addr} {s s' : Shared} {c c' : AS}
theorem letOwned {src : MV} {l : List PV} {it : Addr} {i : Nat} {target : Expr} {v : Value} {Q : Unit → Shared → Prop} {E : Value → Shared → Prop} {M : Model} (I : IterAt X as s.heap src l it i) (h : Q () s) : wpAny M A (letOwnedTupleGo target (.ref it) v) Q E s := by
  have key : ∀ a, wpAny M A (do
      let o ← load it
      match o.cls, o.data with
      | .type n, .fields vs =>
        if ["enumerate", "zip", "dict_itemiterator", "dict_reverseitemiterator", "odict_iterator", "itertools.zip_longest", "itertools.pairwise"].contains n && vs[0]? == some (rawInt a) then
          rule "for.unpacks-the-owned-tuple"
          updateField it 0 .none
      | z1_, z2_ => pure ()) Q E s := fun a => by
    rcases I with ⟨t, vs, n, _, _, _, o, e, hc, hd⟩ | ⟨j, a', _, _, o, e, hc, hd⟩
    · refine wpAny_bind (wpAny_loadPart e ?_)
      rw [hc, hd]
      exact wpAny_pure h
    · refine wpAny_bind (wpAny_loadPart e ?_)
      rw [hc, hd]
      exact wpAny_pure h
  unfold letOwnedTupleGo
  split
  · cases v with
    | ref a => exact key a
    | _ => exact wpAny_pure h
  · cases v with
    | ref a => exact key a
    | _ => exact wpAny_pure h
  · exact wpAny_pure h
theorem notClass (E : EnvOK env names) : (env.scope.kind == .class || (env.scope.kind == .module && env.locals != env.globals)) = false := by rw [E.kind]; rfl
/-- a name of the frame is given a value -/
theorem sem_store (G : X.Good) (E : EnvOK env names) {x : Str} {i : Nat} (hi : names[i]? = some (x, .local)) {v : Value} {mv : MV} {Q : Unit → AS → Prop} (hq : Q () ⟨c.ρ.set i (some mv), c.σ⟩) :
    SemP X r env names Xc (fun as h => RepM X as h v mv) RU (storeName env x v) c Q := by
  intro A as s K Ex ac st hv hk hx
  obtain ⟨m, F⟩ := st.frame
  have hl : env.kindOf x = some .local := (kind_of E x).trans (lookup_mem E.nodup (List.mem_of_getElem? hi))
  refine wpAny_storeName_local hl F.ns (fun h' hn hs => ?_) (notClass E)
  have st' : St X env names ⟨c.ρ.set i (some mv), c.σ⟩ as h' := st.put G E F hi hn hs hv
  have k : Kp (frAddrs A) (env.locals :: as) s.heap h' := fun b o e nb z_ => ⟨o.slots, by rw [hs.2 b (fun q => nb (by subst q; exact .head _))]; exact e, fun z_ => rfl⟩
  refine hk () () _ as _ ⟨ac.kp (X := X) k st.base (fun b hb hm => ?_) fun x hx => .inl hx, st', k, ⟨[], by simp, fun z_ h => (nomatch h)⟩, ⟨h', s.toks + 1, rfl⟩⟩ trivial hq
  clear E F G hi hk hl hn hq hs hv hx k m st v x
  have q_ := List.mem_cons.mp hb
  clear Ex K Q
  rcases q_ with rfl | hb
  · clear ac hb hm
    obtain ⟨m', F'⟩ := st'.frame
    exact F'.obj
  · exact absurd hb (ac.off b hm)
theorem sem_assignName (G : X.Good) (E : EnvOK env names) {x : Str} {i : Nat} {pos} (hi : names[i]? = some (x, .local)) {v : Value} {mv : MV} {Q : Unit → AS → Prop} (hq : Q () ⟨c.ρ.set i (some mv), c.σ⟩) :
    SemP X r env names Xc (fun as h => RepM X as h v mv) RU (assign (.Name x pos) env v) c Q :=
  fun A as s K Ex ac st hv hk hx => wpAny_assign_Name (sem_store (r := r) (Xc := Xc) G E hi hq A as s K Ex ac st hv hk hx)
theorem localAt {i : Nat} {x : Str} (h : lvIdx names x = some i) (hl : names[i]?.any (·.2 == .local) = true) : names[i]? = some (x, .local) := by
  obtain ⟨k, h1, h2, h3⟩ := lvIdx_is h
  rw [h1] at hl ⊢
  have : k = .local := by simpa using hl
  rw [this]
theorem repPs_ms {h : Heap} : ∀ {vs : List Value} {l : List PV}, RepPs X h vs l → RepMs X as h vs (l.map .p) := @fun y1_ y2_ y3_ => match y1_, y2_, y3_ with
  | vs, [], r => by simpa only [RepPs, List.map_nil, RepMs] using r
  | vs, x :: xs, r => by
    simp only [RepPs] at r
    clear y3_
    obtain ⟨v, q, e, h1, h2⟩ := r
    simp only [List.map_cons, RepMs, RepM]
    exact ⟨v, q, e, h1, repPs_ms h2⟩
set_option tactic.hygienic true in
theorem namesOf_each {env : Env} : ∀ {ts : List Expr} {is : List Nat}, namesOf names ts = some is → (assignEach ts env).length = is.length ∧ (assignEach ts env).findIdx? (·.1) = none := @fun y1_ y2_ y3_ => match y1_, y2_, y3_ with
  | [], is, h => by simp [namesOf] at h; subst h; exact ⟨rfl, rfl⟩
  | t :: ts, is, h => by
    cases t <;> try (simp [namesOf] at h; done)
    rename_i x p
    rw [namesOf] at h
    split at h
    · rename_i i l h1 h2
      split at h
      · clear h1 y3_
        cases h
        clear y1_ y2_
        obtain ⟨e1, e2⟩ := namesOf_each (env := env) h2
        refine ⟨by show (assignEach ts env).length + 1 = l.length + 1; rw [e1], ?_⟩
        show List.findIdx? (·.1) ((false, assign (.Name x p) env) :: assignEach ts env) = none
        rw [List.findIdx?_cons, e2]
        rfl
      · clear h1 h2 y3_
        cases h
    · clear y3_
      cases h
set_option tactic.hygienic true in
theorem sem_assignAll (G : X.Good) (E : EnvOK env names) : ∀ (ts : List Expr) {is : List Nat} {vs : List Value} {ms : List MV} {c : AS} {Q : Unit → AS → Prop}, namesOf names ts = some is → ms.length = is.length → Q () ⟨setAll c.ρ is ms, c.σ⟩ →
    SemP X r env names Xc (fun as h => RepMs X as h vs ms) RU (assignInOrder ((assignEach ts env).map (·.2)) vs) c Q
  | [], is, vs, ms, c, Q, h, hl, hq => by
    simp only [namesOf, Option.some.injEq] at h
    clear E G
    subst h
    have : ms = [] := List.length_eq_zero_iff.mp hl
    clear hl
    subst this
    intro A as s K Ex ac st hr hk hx
    simp only [RepMs] at hr
    clear hx
    subst hr
    exact wpAny_pure (hk () () c as s (.refl ac st) trivial hq)
  | t :: ts, is, vs, ms, c, Q, h, hl, hq => by
    cases t <;> try (simp [namesOf] at h; done)
    rename_i x p
    rw [namesOf] at h
    split at h
    · rename_i i l h1 h2
      split at h
      · rename_i h3
        cases h
        simp only [Bool.and_eq_true] at h3
        have hi := localAt h1 h3.1
        clear h1 h3
        cases ms with
        | nil => simp at hl
        | cons m ms =>
          intro A as s K Ex ac st hr hk hx
          simp only [RepMs] at hr
          obtain ⟨v, q, rfl, r1, r2⟩ := hr
          show wpAny _ _ (holding q (assign (.Name x p) env v) >>= fun _ => assignInOrder ((assignEach ts env).map (·.2)) q) _ _ _
          refine wpAny_bind (wpAny_holding ((sem_assignName (r := r) (Xc := Xc) G E hi (c := c) (Q := fun _ c' => c' = ⟨c.ρ.set i (some m), c.σ⟩) rfl) A as s _ Ex ac st r1 (fun _ _ c1 as1 s1 n1 _ q1 => ?_) hx))
          clear hi p r1 v x
          subst q1
          refine (sem_assignAll G E ts h2 (by simpa using hl) (c := ⟨c.ρ.set i (some m), c.σ⟩) (Q := Q) ?_).next st n1 (n1.reps ac st r2) (fun a b c' as' s' n' _ hr hq => hk a b c' as' s' n' hr hq) hx
          exact hq
      · clear E G h1 h2 hl hq
        cases h
    · clear E G hl hq
      cases h
theorem itemsV_is {v : Value} {mv : MV} {l : List MV} {h : Heap} (e : itemsV mv = some l) (r : RepM X as h v mv) : ∃ t vs n, v = .ref t ∧ h.get? t = some (tupO vs n) ∧ RepMs X as h vs l := by
  unfold itemsV at e
  split at e
  · cases e
    simp only [RepM, RepP] at r
    obtain ⟨t, vs, n, h1, h2, h3⟩ := r
    exact ⟨t, vs, n, h1, h2, repPs_ms h3⟩
  · cases e
    simp only [RepM] at r
    exact r
  · clear r
    cases e
theorem sem_assignT (G : X.Good) (E : EnvOK env names) {ts : List Expr} {is : List Nat} {k : Nat} {pos : Pos} {v : Value} {mv : MV} {l : List MV} {Q : Unit → AS → Prop} (h : namesOf names ts = some is) (hi : itemsV mv = some l) (hl : l.length = is.length) (hq : Q () ⟨setAll c.ρ is l, c.σ⟩) :
    SemP X r env names Xc (fun as h => RepM X as h v mv) RU (assign (.Tuple ts k pos) env v) c Q := by
  intro A as s K Ex ac st hr hk hx
  have q_ := itemsV_is hi hr
  clear hi
  obtain ⟨t, vs, n, rfl, ho, hr'⟩ := q_
  obtain ⟨e1, e2⟩ := namesOf_each (env := env) h
  refine wpAny_assign_Tuple ac.handled (tupO_is ho) (by rw [e1, List.size_toArray, hr'.len, hl]) e2 fun h' hx' => ?_
  have n1 := At.grow (tk := s.toks) (h' := h') ac st fun b o e => hx' b o (Nat.ne_of_lt (Heap.lt_size e)) e
  exact (sem_assignAll (r := r) (Xc := Xc) G E ts h hl hq).next st n1 (n1.reps ac st hr') (fun a b c' as' s' n' z_ hr hq => hk a b c' as' s' n' hr hq) hx
theorem erLoc_at {x : Str} {i : Nat} {ns : Names} (h : erLoc ns x = some i) : ns[i]? = some (x, .local) := by
  unfold erLoc at h
  cases hi : lvIdx ns x with
  | none => rw [hi] at h; cases h
  | some j =>
    rw [hi] at h
    cases hl : ns[j]?.any (·.2 == .local) with
    | false => simp only [hl] at h; cases h
    | true =>
      simp only [hl] at h
      cases h
      exact localAt hi hl
theorem oneL_inv {o : Option Nat} {l : List Nat} (h : oneL o = some l) : ∃ i, o = some i ∧ l = [i] := by
  cases o with
  | none => cases h
  | some i => cases h; exact ⟨i, rfl, rfl⟩
theorem twoL_inv {o : Option (List Nat)} {l : List Nat} (h : twoL o = some l) : ∃ i j, o = some [i, j] ∧ l = [i, j] := by
  rcases o with _ | ⟨_ | ⟨i, _ | ⟨j, _ | ⟨k, r⟩⟩⟩⟩
  · cases h
  · cases h
  · cases h
  · cases h; exact ⟨i, j, rfl, rfl⟩
  · cases h
theorem pairOf_inv {x y z : PV} (h : pairOf x = some (y, z)) : x = .tup [y, z] := by
  cases x with
  | tup l =>
    rcases l with _ | ⟨a, _ | ⟨b, _ | ⟨c, r⟩⟩⟩
    · cases h
    · cases h
    · cases h; rfl
    · cases h
  | _ => cases h
theorem sem_bindTg (G : X.Good) (E : EnvOK env names) {target : Expr} {tg : List Nat} {x : PV} {v : Value} {ρ' : List (Option MV)} {Q : Unit → AS → Prop} (ht : tgOf names target = some tg) (hb : bindTg c.ρ tg x = some ρ') (hq : Q () ⟨ρ', c.σ⟩) :
    SemP X r env names Xc (fun as h => RepM X as h v (.p x)) RU (assign target env v) c Q := by
  cases target with
  | Name y p =>
    have q_ := oneL_inv ht
    clear ht
    obtain ⟨i, hi, rfl⟩ := q_
    cases hb
    exact sem_assignName G E (erLoc_at hi) hq
  | Tuple ts k p =>
    have q_ := twoL_inv ht
    clear ht
    obtain ⟨i, j, hi, rfl⟩ := q_
    obtain ⟨⟨y, z⟩, hp, e⟩ := thenO_inv hb
    clear hb
    cases e
    have hx := pairOf_inv hp
    clear hp
    subst hx
    exact sem_assignT G E hi (l := [.p y, .p z]) rfl rfl hq
  | _ => cases ht
end
end Mine
namespace Mine
section
variable {X : Cx} {r : Nat} {env env' : Env} {names ni : Names} {Xc : Prop} {A : Around} {as as' as'' : List Addr} {s s' s'' : Shared} {c c' c'' : AS}
theorem At.there' (n : At X r env names A as s c' as' s') : ∀ b, s'.heap.get? b = none → s.heap.get? b = none := fun b e => by
  obtain ⟨bs, eb, _⟩ := n.ext
  by_cases hP : b = PT
  · clear eb
    subst hP
    obtain ⟨ps, e', _⟩ := n.st.base.2
    rw [e] at e'
    clear e n
    cases e'
  by_cases hL : b = env.locals
  · clear eb hP
    subst hL
    obtain ⟨m, F⟩ := n.st.frame
    clear n
    obtain ⟨o, e', _⟩ := F.obj
    rw [e] at e'
    clear F e m
    cases e'
  by_cases ha : b ∈ as
  · clear hL hP
    obtain ⟨i, o, ob, _, _, _, e', _⟩ := n.st.store.mem (a := b) (by rw [eb]; exact List.mem_append_left _ ha)
    rw [e] at e'
    clear e eb ha n
    cases e'
  · exact n.kp.none' e (fun q => (List.mem_cons.mp q).elim hL ha) hP
theorem At.then (n : At X r env names A as s c' as' s') (n' : At X r env names A as' s' c'' as'' s'') : At X r env names A as s c'' as'' s'' := n.trans n' n.there'
theorem At.outer (G : X.Good) (ac : ACond X A r as s.heap) (st : St X env names c as s.heap) (n : At X r env' ni A as s c' as' s') (hnone : s.heap.get? env'.locals = none) {h'' : Heap} (hs : Heap.SameBut env'.locals s'.heap h'') :
    At X r env names A as s ⟨c.ρ, c'.σ⟩ as' { s' with heap := h'' } := by
  obtain ⟨m₀, F₀⟩ := st.frame
  obtain ⟨m', F'⟩ := n.st.frame
  obtain ⟨oL, eL, _⟩ := F₀.obj
  obtain ⟨oC, eC, fC⟩ := F'.obj
  obtain ⟨bs, eb, hb⟩ := n.ext
  have hCL : env.locals ≠ env'.locals := fun q => by rw [q, hnone] at eL; cases eL
  have hCP : env'.locals ≠ PT := high_ne G F'.high
  have hCF : env'.locals ∉ frAddrs A := fun q => by
    clear F' F₀ G eC eL eb fC hCL hCP hb hs m' m₀ n oC st
    obtain ⟨o, e, _⟩ := ac.frObj q
    rw [hnone] at e
    clear ac bs h'' hnone q
    cases e
  have tk1 : TKeep s.heap s'.heap := n.kp.tkeep st.base ac fun b hb o e => by
    clear F' F₀ G ac eC eL eb fC hCF hCL hCP hs m' m₀ n oC
    have q_ := List.mem_cons.mp hb
    clear h''
    rcases q_ with rfl | hb
    · rw [hnone] at e; cases e
    · exact st.store.notImm hb e
  have tk2 : TKeep s'.heap h'' := fun b o e i => (hs.2 b (fun q => by subst q; rw [eC] at e; cases e; exact frObj_notImm fC i)).trans e
  have tk : TKeep s.heap h'' := fun b o e i => tk2 b o (tk1 b o e i) i
  have kp1 : Kp (frAddrs A) as s.heap s'.heap := fun b o e nb np => n.kp b o e (fun q => (List.mem_cons.mp q).elim (fun q => by subst q; rw [hnone] at e; cases e) nb) np
  have kp2 : Kp (frAddrs A) as s.heap h'' := fun b o e nb np => by
    clear F' F₀ G ac eC eL eb fC hCF hCL hCP hb m' m₀ n oC st tk tk1 tk2
    obtain ⟨sl, e', q⟩ := kp1 b o e nb np
    exact ⟨sl, (hs.2 b (fun q => by subst q; rw [hnone] at e; cases e)).trans e', q⟩
  have hLs : env.locals ∉ as' := fun q => by
    rw [eb] at q
    clear F' G ac eC eb fC hCF hCL hCP hnone hs kp1 kp2 m' n oC st tk tk1 tk2
    have q_ := List.mem_append.mp q
    clear h''
    rcases q_ with q | q
    · exact F₀.off q
    · rw [hb _ q] at eL; cases eL
  refine ⟨⟨n.cond.handled, n.cond.depth, n.cond.units, ?_, n.cond.off, n.cond.high⟩, ⟨n.st.base.of G (fun b hb => hs.2 b (fun q => by subst q; exact absurd hb (Nat.not_lt.mpr F'.high))) tk2,
    ⟨m₀, ⟨kp2.ns F₀.ns F₀.off (high_ne G F₀.high), F₀.high, hLs, F₀.len, fun i mv x kd e q => ?_⟩⟩, n.st.store.1, n.st.store.2.1, fun i o e => ?_⟩, kp2.mono fun b hb => .tail _ hb, n.ext, ?_⟩
  · clear F' F₀ G ac eC eL eb fC hCL hCP hLs hb hnone kp1 kp2 m' m₀ oC st tk tk1 tk2
    obtain ⟨l, hl, hff⟩ := n.cond.frames
    refine ⟨l, hl, fun e he => ?_⟩
    clear bs n
    obtain ⟨h1, L, oL, h2, h3, h4⟩ := hff e he
    refine ⟨h1, L, oL, h2, (hs.2 L (fun q => hCF ?_)).trans h3, h4⟩
    unfold frAddrs
    rw [hl]
    exact List.mem_filterMap.mpr ⟨e, he, by rw [h2, q]⟩
  · have := (F₀.var i mv x kd e q).keep tk
    rw [eb]
    exact this.more
  · clear F₀ G ac eC eL eb fC hCF hCL hCP hLs hb hnone kp1 kp2 m₀ oC st tk tk1
    obtain ⟨a, ob, h1, h2, h3, h4⟩ := n.st.store.2.2 i o e
    exact ⟨a, ob, h1, h2, (hs.2 a (fun q => F'.off (q ▸ List.mem_of_getElem? h1))).trans h3, h4.keep tk2⟩
  · clear F' F₀ G ac eC eL eb fC hCF hCL hCP hLs hb hnone hs kp1 kp2 m' m₀ oC st tk1 tk2
    obtain ⟨h, tk, e⟩ := n.same
    exact ⟨h'', tk, by rw [e]⟩
/-- the block of a comprehension is entered -/
theorem At.block (G : X.Good) (E : EnvOK env names) {scope : Scope} (ok : CompOK names scope) (ac : ACond X A r as s.heap) (st : St X env names c as s.heap) {h' : Heap} {acc C : Addr} {tk : Nat} (u : Names)
    (k : ∀ b o, s.heap.get? b = some o → h'.get? b = some o) (hacc : h'.get? acc = some (lstO [] 0)) (hC : h'.Ns C fun z_ => none) (na : s.heap.get? acc = none) (nC : s.heap.get? C = none) (la : X.g1.objs.size ≤ acc) (lC : X.g1.objs.size ≤ C) (hne : C ≠ acc) :
    At X r (compEnvC scope (clGo env.cells scope.names []) C env) (ownNames names scope.names) A as s ⟨capR c.ρ (capsOf names u 0 scope.names) (ownNames names scope.names).length, c.σ ++ [.lst []]⟩ (as ++ [acc]) { s with heap := h', toks := tk } := by
  have nO := At.newIn (mo := .lst []) (tk := tk) ac st k hacc na la ⟨[], 0, rfl, by simp only [RepPs]⟩
  clear E G ac hacc la na
  obtain ⟨m₀, F₀⟩ := st.frame
  have hCs : C ∉ as ++ [acc] := fun q => by
    clear F₀ hC k lC m₀ nO ok scope tk u
    have q_ := List.mem_append.mp q
    clear h'
    rcases q_ with q | q
    · clear hne
      obtain ⟨_, _, ob, _, _, _, e, _⟩ := st.store.mem q
      rw [nC] at e; cases e
    · exact hne (List.mem_singleton.mp q)
  refine ⟨nO.cond, ⟨nO.st.base, ⟨_, ⟨hC, lC, hCs, ?_, fun j mv x kd e q => ?_⟩⟩, nO.st.store⟩, fun b o e nb np => ⟨o.slots, k b o e, fun z_ => rfl⟩, nO.ext, nO.same⟩
  · unfold capR
    rw [capR_len, List.length_replicate]
  · unfold capR at e
    clear hC hCs hne lC nC nO st
    rcases capR_get _ _ e with ⟨i, h1, h2⟩ | h1
    · obtain ⟨x', w1, w2⟩ := caps_mem scope.names scope.names 0 (fun j => by rw [Nat.zero_add]) h1
      clear h1
      obtain ⟨k', w3, w4⟩ := own_get q
      rw [w1] at w3
      clear q
      cases w3
      have hc : names.lookup x = some .cell := by
        clear C F₀ acc e h2 k mv m₀ tk u w2 w4
        have q_ := ok.kinds _ (List.mem_of_getElem? w1)
        clear h' i kd ok w1
        rcases q_ with z | ⟨_, z⟩ | z
        · clear j scope
          cases z
        · exact z
        · clear j scope
          cases z
      have hk : kd = .cell := by rw [w4, hc]; rfl
      clear ok w4
      subst hk
      obtain ⟨k2, w5, w6, _⟩ := lvIdx_is w2
      rw [hc] at w6
      clear hc w2
      cases w6
      have hρ : c.ρ[i]? = some (some mv) := by
        rw [List.getD_eq_getElem?_getD] at h2
        clear C F₀ acc k m₀ tk w1 w5 x
        cases e : c.ρ[i]? with
        | none => rw [e] at h2; cases h2
        | some o => rw [e] at h2; simp at h2; rw [h2]
      clear e h2 u
      obtain ⟨a, v, e1, ⟨o, e2, e3⟩, e4⟩ := F₀.var i mv x .cell hρ w5
      exact ⟨a, v, lookup_of_vals (clGo_val (cells := env.cells) scope.names [] (fun p hp => nomatch hp)) (clGo_mem e1 scope.names [] (List.mem_of_getElem? w1)), ⟨o, k _ _ e2, e3⟩, (e4.keep (tkeep_all k)).more⟩
    · rw [List.getElem?_replicate] at h1
      split at h1 <;> cases h1
end
end Mine
namespace Mine
theorem iterOf_still {σ σ' : List MO} {v : MV} {l : List PV} (h : iterOf σ v = some l) (hs : stillAt v σ σ') : iterOf σ' v = some l := by
  cases v with
  | p x => cases x <;> first | exact h | cases h
  | loc j => exact hs.trans h
  | mt l => cases h
section
variable {X : Cx} {r : Nat} {env : Env} {names : Names} {Xc : Prop} {A : Around} {as : List Addr} {s : Shared} {c : AS}
abbrev testsOf (ifs : List Expr) (env : Env) : Sem Bool := forIn ifs true fun c r => if r = true then do let ok ← isTrue c env (eval c env); pure (ForInStep.yield ok) else pure (ForInStep.yield r)
/-- a place that nobody of s1 has: the iterator's -/
structure Fresh (X : Cx) (env : Env) (as1 : List Addr) (s1 : Shared) (it : Addr) : Prop where
  none : s1.heap.get? it = none
  high : X.g1.objs.size ≤ it
  loc : it ≠ env.locals
  no : it ∉ as1
theorem none_from {h : Heap} {b : Addr} (hb : h.objs.size ≤ b) : h.get? b = none := by
  cases q : h.get? b with
  | none => rfl
  | some o => exact absurd (Heap.lt_size q) (Nat.not_lt.mpr hb)
theorem Kp.stays (G : X.Good) {as1 as' : List Addr} {s1 s2 : Shared} {h4 : Heap} (kp : Kp (frAddrs A) (env.locals :: as') s2.heap h4) (ac : ACond X A r as' s2.heap) {it : Addr} (F : Fresh X env as1 s1 it) (hnot : it ∉ as') {o : Obj} (e : s2.heap.get? it = some o) (nf : ¬ FrObj o) : h4.get? it = some o :=
  kp.exact e (fun q => (List.mem_cons.mp q).elim F.loc hnot) (high_ne G F.high) fun q => by
    clear F G as1 hnot kp s1
    obtain ⟨o', e', f⟩ := ac.frObj q
    exact nf (Option.some.inj (e'.symm.trans e) ▸ f)
/-- the comprehension's iterator and its list, k items done -/
structure CompIt (X : Cx) (as1 : List Addr) (acc : Addr) (m : MV) (l : List PV) (it : Addr) (k : Nat) (as' : List Addr) (h : Heap) : Prop where
  cur : IterAt X as' h m l it k
  no : it ∉ as'
  ext : ∃ bs, as' = as1 ++ acc :: bs
theorem CompIt.after (G : X.Good) {as1 as' asF : List Addr} {s1 s2 sF : Shared} {cb cF : AS} {acc it : Addr} {m : MV} {l : List PV} {k : Nat} (F : Fresh X env as1 s1 it) (w : CompIt X as1 acc m l it k as' s2.heap) (ac : ACond X A r as' s2.heap) (st : St X env names cb as' s2.heap) (n : At X r env names A as' s2 cF asF sF) : CompIt X as1 acc m l it k asF sF.heap := by
  obtain ⟨bs', rfl, hb'⟩ := n.ext
  obtain ⟨o2, eo2, _, nf2⟩ := iter_notImm w.cur
  refine ⟨w.cur.keep (n.tkeep ac st) fun o e => (n.kp.stays G ac F w.no eo2 nf2).trans (eo2.symm.trans e), fun q => ?_, ?_⟩
  · exact (List.mem_append.mp q).elim w.no fun q => nomatch (hb' _ q).symm.trans eo2
  · clear F G ac eo2 hb' n nf2 s1 sF st
    have q_ := w.ext
    clear cF cb w
    obtain ⟨bs, rfl⟩ := q_
    exact ⟨bs ++ bs', List.append_assoc ..⟩
inductive CompI (X : Cx) (r : Nat) (env : Env) (names : Names) (A : Around) (as1 : List Addr) (s1 : Shared) (acc : Addr) (m : MV) (l : List PV) (it : Addr) (P : Nat → AS → Prop) (n : Nat) (s' : Shared) : Prop
  | mk (k : Nat) (cb : AS) (as' : List Addr) (e : n = l.length - k) (h : k ≤ l.length) (a : At X r env names A as1 s1 cb as' s') (w : CompIt X as1 acc m l it k as' s'.heap) (i : iterOf cb.σ m = some l) (p : P k cb) : CompI X r env names A as1 s1 acc m l it P n s'
theorem CompI.next {as1 as4 : List Addr} {s1 s4 : Shared} {acc it : Addr} {m : MV} {l : List PV} {P : Nat → AS → Prop} {k : Nat} {c4 : AS} (h : k < l.length) (a : At X r env names A as1 s1 c4 as4 s4) (w : CompIt X as1 acc m l it (k + 1) as4 s4.heap) (i : iterOf c4.σ m = some l) (p : P (k + 1) c4) : ∃ m', m' < l.length - k ∧ CompI X r env names A as1 s1 acc m l it P m' s4 :=
  ⟨l.length - (k + 1), Nat.sub_lt_sub_left h (Nat.lt_succ_self k), k + 1, c4, as4, rfl, h, a, w, i, p⟩
inductive CItem (P : PV → List PV → Prop) (m : MV) (o : Option MO) : Prop
  | mk (y : PV) (ys : List PV) (e1 : m = .p y) (e2 : o = some (.lst ys)) (h : P y ys) : CItem P m o
theorem citem {P : PV → List PV → Prop} {m : MV} {o : Option MO} (h : match m, o with
    | .p y, some (.lst ys) => P y ys
    | z1_, z2_ => False) : CItem P m o := by
  cases m with
  | p y =>
    cases o with
    | none => exact h.elim
    | some x => cases x <;> first | exact ⟨y, _, rfl, rfl, h⟩ | exact h.elim
  | _ => cases o <;> exact h.elim
theorem app_is {σ : List MO} {a : Nat} {ys : List PV} {y : PV} (e : σ[a]? = some (.lst ys)) (h : ys.length ≤ lim) : vMeth σ .app (.loc a) [.p y] = some (mN, σ.set a (.lst (ys ++ [y]))) := by
  have e1 : vMeth σ .app (.loc a) [.p y] = thenO (fun l => ifO (l.length ≤ lim) (mN, σ.set a (.lst (l ++ [y])))) (thenO isLst σ[a]?) := rfl
  rw [e1, e]
  exact if_pos h
theorem comp_step (G : X.Good) {cenv : Env} {ni : Names} (E' : EnvOK cenv ni) {elt target : Expr} {ifs : List Expr} {tg : List Nat} (htg : tgOf ni target = some tg)
    {FE : AS → (MV → AS → Prop) → Prop} {FT : AS → (Bool → AS → Prop) → Prop} (hE : ∀ c Q, FE c Q → SemE X r cenv ni False (eval elt cenv) c Q) (hT : ∀ c B, FT c B → SemB X r cenv ni False (testsOf ifs cenv) c B)
    {as1 : List Addr} {s1 s' : Shared} {σ1 : List MO} {m : MV} {l : List PV} {it acc : Addr} {Qf : AS → Prop} {n : Nat} (hl : iterOf σ1 m = some l) (hlen : as1.length = σ1.length) (F : Fresh X cenv as1 s1 it)
    (I : CompI X r cenv ni A as1 s1 acc m l it (fun i cb => vcComp FE FT (stillAt m σ1) tg σ1.length (l.drop i) cb Qf) n s') {K : Option Value → Shared → Prop} {KF : Shared → Prop} {E0 E1 E2 E3 E4 E5 : Value → Shared → Prop}
    (h0 : ∀ cb as' s2, At X r cenv ni A as1 s1 cb as' s2 → (∃ bs, as' = as1 ++ acc :: bs) → Qf cb → K none s2)
    (h1 : ∀ v s2, wpAny (model X.prog X.w) A (letOwnedTupleGo target (.ref it) v) (fun z_ s₁' => wpAny (model X.prog X.w) A (assign target cenv v) (fun z_ s₂ =>
          wpAny (model X.prog X.w) A (testsOf ifs cenv) (fun ok s₃ =>
            if ok = true then wpAny (model X.prog X.w) A (eval elt cenv) (fun x s₄ =>
              wpAny (model X.prog X.w) A (call (.builtin "list.append") [.ref acc, x]) (fun z_ s₅ => KF s₅) E5 s₄) E4 s₃
            else KF s₃) E3 s₂) E2 s₁') E1 s2 → K (some v) s2)
    (h2 : ∀ s4, (∃ m', m' < n ∧ CompI X r cenv ni A as1 s1 acc m l it (fun i cb => vcComp FE FT (stillAt m σ1) tg σ1.length (l.drop i) cb Qf) m' s4) → KF s4) :
    wpAny (model X.prog X.w) A (pyNext (.ref it)) K E0 s' := by
  obtain ⟨i, cb, as', e, hi, n', w, hio, hv⟩ := I
  clear hi
  obtain ⟨oi, eo, ni1, ni2⟩ := iter_notImm w.cur
  refine pm_next n'.cond n'.st w.cur hio (fun hnone h' kk => ?_) (fun x hx v' h' hsame hrv hI => ?_)
  · rw [List.drop_eq_nil_of_le (List.getElem?_eq_none_iff.mp hnone)] at hv
    exact h0 cb as' _ (n'.poke G F.none F.high F.loc w.no eo ni1 ni2 kk).1 w.ext hv
  · have ⟨n2, tk2⟩ := n'.poke G F.none F.high F.loc w.no eo ni1 ni2 (fun b o nb e => (hsame b nb).trans e)
    have w2 : CompIt X as1 acc m l it (i + 1) as' h' := ⟨hI tk2, w.no, w.ext⟩
    have ⟨hil, ex⟩ := List.getElem?_eq_some_iff.mp hx
    rw [List.drop_eq_getElem_cons hil, ex] at hv
    clear E0 eo ex h0 hI hio hsame hx n' ni1 ni2 oi w
    obtain ⟨ρ', hb, hv⟩ := onP_elim hv
    refine h1 _ _ (letOwned w2.cur ?_)
    refine (sem_bindTg (r := r) (Xc := False) G E' htg hb (Q := fun z_ c' => c' = ⟨ρ', cb.σ⟩) rfl) A as' _ _ _ n2.cond n2.st (by simp only [RepM]; exact hrv.keep tk2) (fun z_ z_ c3 as3 s3 n3 z_ q3 => ?_) fun f => f.elim
    clear E' h1 hb hrv htg target tk2 v'
    subst q3
    refine (hT _ _ hv) A as3 s3 _ _ n3.cond n3.st trivial (fun b b' c4 as4 s4 n4 e4 hv4 => ?_) fun f => f.elim
    have n34 := n3.then n4
    have w4 := w2.after G F n2.cond n2.st n34
    clear E1 E2 E3 K hT hv ifs n3 w2 ρ'
    cases e4
    clear hv x
    cases b with
    | false =>
      exact h2 s4 (e ▸ CompI.next hil (n2.then n34) w4 (iterOf_still hl hv4.1) hv4.2)
    | true =>
      refine (hE _ _ hv4) A as4 s4 _ _ n4.cond n4.st trivial (fun y my c5 as5 s5 n5 r5 hv5 => ?_) fun f => f.elim
      have w5 := w4.after G F n4.cond n4.st n5
      clear E4 hE hv4 n4 w4
      have q_ := citem hv5
      clear elt hv5
      obtain ⟨py, ys, rfl, hys, g1, g2, g3⟩ := q_
      have hacc : RepM X as5 s5.heap (.ref acc) (.loc σ1.length) := by
        clear E5 F G e g1 g2 g3 h2 hil hl hys n n2 n34 n5 ni r5 s' s1 s4 tg y ys z_
        have q_ := w5.ext
        clear FE FT KF Qf as' as3 as4 c4 c5 cb cenv h' py s3 w5 z_
        obtain ⟨bs5, rfl⟩ := q_
        simp only [RepM]
        exact ⟨acc, by rw [← hlen, List.getElem?_append_right (Nat.le_refl _), Nat.sub_self]; rfl, rfl⟩
      refine (pm_app (r := r) (Xc := False) (env := cenv) (names := ni) G (app_is hys g1) (Q := fun z_ c' => c' = ⟨c5.ρ, c5.σ.set σ1.length (.lst (ys ++ [py]))⟩) rfl) A as5 s5 _ _ n5.cond n5.st ⟨hacc, by simp only [RepMs]; exact ⟨y, [], rfl, r5, rfl⟩⟩ (fun u mu c6 as6 s6 n6 r6 q6 => ?_) fun f => f.elim
      clear E5 g1 hacc hlen hys r5 r6 u y z_
      subst q6
      exact h2 s6 (e ▸ CompI.next hil (n2.then ((n34.then n5).then n6)) (w5.after G F n5.cond n5.st n6) (iterOf_still hl g2) g3)
theorem comp_run (G : X.Good) {cenv : Env} {ni : Names} (E' : EnvOK cenv ni) {elt target iter : Expr} {ifs : List Expr} {scope : Scope} {pos : Pos} {tg : List Nat} (htg : tgOf ni target = some tg)
    {FE : AS → (MV → AS → Prop) → Prop} {FT : AS → (Bool → AS → Prop) → Prop} (hE : ∀ c Q, FE c Q → SemE X r cenv ni False (eval elt cenv) c Q) (hT : ∀ c B, FT c B → SemB X r cenv ni False (testsOf ifs cenv) c B)
    {as1 : List Addr} {s1 s0 : Shared} {σ1 : List MO} {c0 : AS} {m : MV} {l : List PV} {it acc : Addr} {Qf : AS → Prop} (hl : iterOf σ1 m = some l) (hlen : as1.length = σ1.length) (F : Fresh X cenv as1 s1 it)
    (n0 : At X r cenv ni A as1 s1 c0 (as1 ++ [acc]) s0) (hne : it ≠ acc) (I0 : IterAt X (as1 ++ [acc]) s0.heap m l it 0) (hio : iterOf c0.σ m = some l) (hv : vcComp FE FT (stillAt m σ1) tg σ1.length l c0 Qf) {R : Result → Shared → Prop}
    (hR : ∀ cb as' s', At X r cenv ni A as1 s1 cb as' s' → (∃ bs, as' = as1 ++ acc :: bs) → Qf cb → R (.ok .next) s') :
    codeAny (model X.prog X.w) A (.compStart (.ListComp elt [⟨target, iter, ifs, 0⟩] scope pos) 0 (.ref it) (.ref acc) cenv) R s0 := by
  have loop := compLoop_gen (A := A) (scope := scope) (pos := pos) (iter := iter) _ (fun n s' I => comp_step G E' htg hE hT hl hlen F I hR (fun z_ z_ h => h) fun z_ h => h) l.length
    ⟨0, c0, as1 ++ [acc], rfl, Nat.zero_le _, n0, ⟨I0, fun q => (List.mem_append.mp q).elim F.no fun q => hne (List.mem_singleton.mp q), [], rfl⟩, hio, hv⟩
  refine codeAny_compStart_list loop ?_
  clear E' F G hE hR hT hio hl hlen hne htg hv n0 ni s1 tg σ1
  rcases I0 with ⟨t, vs, n, _, _, _, hi⟩ | ⟨j, a, _, _, hi⟩
  · exact wpAny_pyIter_tupleiter hi loop
  · exact wpAny_pyIter_listiter hi loop
theorem iterOf_more {σ : List MO} {o : MO} {m : MV} {l : List PV} (hl : iterOf σ m = some l) : iterOf (σ ++ [o]) m = some l := by
  cases m with
  | p x => cases x <;> first | exact hl | cases hl
  | loc j =>
    have hj := iterOf_loc hl
    simp only [iterOf]
    rw [List.getElem?_append_left (List.getElem?_eq_some_iff.mp hj).1, hj]
  | mt l => cases hl
theorem fold_plain {it : Expr} (h : isSet it = false) (env : Env) : ∀ x, foldedSetIterable it env x = pure x := fun x => by
  cases it <;> first | rfl | exact no h
/-- the places of the block and what stands there -/
structure Placed (h1 hA h4 : Heap) (low it acc C : Addr) : Prop where
  keep : ∀ b o, hA.get? b = some o → h4.get? b = some o
  at_ : h4.get? acc = some (lstO [] 0)
  na : h1.get? acc = none
  nC : h1.get? C = none
  ni : h1.get? it = none
  la : low ≤ acc
  lC : low ≤ C
  li : low ≤ it
  ne : C ≠ acc
  iC : it ≠ C
  ia : it ≠ acc
theorem placed {h1 hA h4 : Heap} {low : Nat} {o : Obj} (hlow : low ≤ h1.objs.size) (szA : h1.objs.size < hA.objs.size) (hs : Heap.SameBut (hA.push (lstO [] 0)).objs.size ((hA.push (lstO [] 0)).push o) h4) : Placed h1 hA h4 low h1.objs.size hA.objs.size (hA.push (lstO [] 0)).objs.size := by
  have hAC : hA.objs.size < (hA.push (lstO [] 0)).objs.size := by rw [Heap.size_push]; exact Nat.lt_succ_self _
  have lA := Nat.le_of_lt szA
  have lC := Nat.lt_trans szA hAC
  refine ⟨fun b o e => ?_, (hs.2 _ (Nat.ne_of_lt hAC)).trans (Heap.get?_push_of_some _ (Heap.get?_push_size _ rfl)), none_from lA, none_from (Nat.le_of_lt lC), none_from (Nat.le_refl _), Nat.le_trans hlow lA, Nat.le_trans hlow (Nat.le_of_lt lC), hlow, Ne.symm (Nat.ne_of_lt hAC), Nat.ne_of_lt lC, Nat.ne_of_lt szA⟩
  exact (hs.2 b (Nat.ne_of_lt (Nat.lt_trans (Heap.lt_size e) hAC))).trans (Heap.get?_push_of_some _ (Heap.get?_push_of_some _ e))
theorem sem_comp (G : X.Good) (E : EnvOK env names) {elt target iter : Expr} {ifs : List Expr} {scope : Scope} {pos : Pos} {tg : List Nat} (ok : CompOK names scope) (hset : isSet iter = false) (htg : tgOf (ownNames names scope.names) target = some tg) (u : Names)
    {FE : AS → (MV → AS → Prop) → Prop} {FT : AS → (Bool → AS → Prop) → Prop}
    (hE : ∀ cenv, EnvOK cenv (ownNames names scope.names) → ∀ c Q, FE c Q → SemE X r cenv (ownNames names scope.names) False (eval elt cenv) c Q)
    (hT : ∀ cenv, EnvOK cenv (ownNames names scope.names) → ∀ c B, FT c B → SemB X r cenv (ownNames names scope.names) False (testsOf ifs cenv) c B)
    {Q : MV → AS → Prop} {Q1 : MV → AS → Prop} (h1 : SemE X r env names Xc (eval iter env) c Q1)
    (h2 : ∀ v c1, Q1 v c1 → onP (iterOf c1.σ v) fun l => l.length ≤ lim ∧ vcComp FE FT (stillAt v c1.σ) tg c1.σ.length l
      ⟨capR c1.ρ (capsOf names u 0 scope.names) (ownNames names scope.names).length, c1.σ ++ [.lst []]⟩ fun c2 => Q (.loc c1.σ.length) ⟨c1.ρ, c2.σ⟩) :
    SemE X r env names Xc (eval (.ListComp elt [⟨target, iter, ifs, 0⟩] scope pos) env) c Q := by
  intro A as s K Ex ac st _ hk hx
  rw [eval_ListComp]
  have hclos := closure_is (scope := scope) (env := env) fun x hx => by
    clear G ac h1 h2 hE hT hk hset htg ifs iter pos st target tg u
    have q_ := ok.kinds _ hx
    clear FE FT K Q Q1 elt hx ok scope
    rcases q_ with q | ⟨_, q⟩ | q
    · clear E hx
      cases q
    · exact E.cells x q
    · clear E hx
      cases q
  refine wpAny_comprehension_free (use := none) (g := ⟨target, iter, ifs, 0⟩) (gs := []) rfl (fold_plain hset env) hclos ok.kind (fun x hx hl => lookup_mem ok.nodup (by rw [← hl]; exact hx)) ?_
  refine h1.next st (.refl ac st) trivial (fun v m c1 as1 s1 n1 z_ r1 q1 => ?_) hx
  clear ac h1 hclos hset st z_
  obtain ⟨l, hl, hlen, hvc⟩ := onP_elim (h2 m c1 q1)
  refine pm_iter G n1.cond n1.st r1 hl (fun hA kA IA szA => ?_)
  refine wpAny_newObj_type ?_ (Nat.zero_le _)
  refine wpAny_newFunctionEnv (fun x hx q => ?_) (fun x hx => nomatch hx) (fun h4 hn hs => ?_) ok.kind
  · rcases ok.kinds _ hx with z | ⟨z, _⟩ | z <;> (rw [q] at z; cases z)
  · have P := placed n1.st.low (by omega) hs
    have EC := compEnv_ok E ok (hA.push (lstO [] 0)).objs.size
    refine comp_run G EC htg (hE _ EC) (hT _ EC) hl n1.st.store.1 ⟨P.ni, P.li, P.iC, fun q => absurd (n1.st.store.lt q) (Nat.lt_irrefl _)⟩ (At.block (tk := s1.toks) G E ok n1.cond n1.st u (fun b o e => P.keep b o (kA b o e)) P.at_ hn P.na P.nC P.la P.lC P.ne) P.ia (IA.keep (tkeep_all P.keep) fun o e => P.keep _ _ e) (iterOf_more hl) hvc fun cb as' s' n' e' hq => ?_
    clear E EC IA h2 hE hT hl hlen hn hs htg hvc hx ifs iter kA l ok pos q1 r1 szA target tg u v
    obtain ⟨mm, FF⟩ := n'.st.frame
    refine ⟨mm, FF.ns, fun h'' hs'' => hk _ (.loc c1.σ.length) _ as' _ (n1.then (At.outer G n1.cond n1.st n' P.nC hs'')) ?_ hq⟩
    clear Ex FE FF FT G P Q1 elt h4 hk hq hs'' m mm n' scope
    obtain ⟨bs, rfl⟩ := e'
    simp only [RV, RepM]
    exact ⟨_, by rw [← n1.st.store.1, List.getElem?_append_right (Nat.le_refl _), Nat.sub_self]; rfl, rfl⟩
end
end Mine
namespace Mine
/-! ## soundness: expressions -/
structure Snd (X : Cx) (Sp : Spec) (n : Nat) : Prop where
  E : ∀ e ns r env Xc c Q, EnvOK env ns → vcE Sp r X.ns Xc (er ns n e) c Q → SemE X r env ns Xc (eval e env) c Q
  T : ∀ e ns r env Xc c B, EnvOK env ns → vcT Sp r X.ns Xc (er ns n e) c B → SemB X r env ns Xc (isTrue e env (eval e env)) c B
section
variable {X : Cx} {Sp : Spec} {n r : Nat} {env : Env} {ns : Names} {Xc : Prop} {c : AS}
theorem er_star (n : Nat) {e : Expr} (h : isStar e = true) : er ns n e = .bad := by
  cases n with
  | zero => rfl
  | succ n => cases e <;> first | rfl | exact no' h
theorem snd_list (H : Snd X Sp n) {pos : Pos} (E : EnvOK env ns) : ∀ (es : List Expr) {c : AS} {Q : List MV → AS → Prop}, vcL Sp r X.ns Xc (es.map (er ns n)) c Q → SemL X r env ns Xc (spliced (backTo pos (starEach es env))) c Q := fun y1_ y2_ y3_ y4_ => match y1_, y2_, y3_, y4_ with
  | [], c, Q, h => semL_nil h
  | e :: es, c, Q, h => by
    rw [List.map_cons, L_cons] at h
    by_cases hs : isStar e = true
    · rw [er_star n hs] at h
      exact h.elim
    · exact semL_cons (starEach_cons (by simpa using hs)) (H.E e ns r env Xc c _ E h) fun v c1 h' => snd_list H E es h'
theorem snd_zero : Snd X Sp 0 := ⟨fun e ns r env Xc c Q E h => False.elim h, fun e ns r env Xc c Q E h => False.elim h⟩
structure Wld (X : Cx) (Sp : Spec) : Prop where
  G : X.Good
  GG : GlobOK X
  CC : ClassesOK X
  SO : SpecOK X Sp
theorem cmpOf_eq {op : CmpOp} {o : COp} (h : cmpOf op = some o) : op = copOf o := by
  cases op <;> first | (cases h; done) | (cases h; rfl)
theorem binOf_eq {op : Operator} {o : BOp} (h : binOf op = some o) : op = bopOf o := by
  cases op <;> first | (cases h; done) | (cases h; rfl)
theorem set_marked {b : Expr} (hs : isSet b = false) (op : CmpOp) : behindInMarks op b = false := by
  cases b <;> first | rfl | cases hs
section
variable {rs : List Int} {Q : MV → AS → Prop}
theorem ite_bad {b : Bool} {e : ME} (h : vcE Sp r rs Xc (if b then .bad else e) c Q) : b = false ∧ vcE Sp r rs Xc e c Q := by
  cases b with
  | true => exact h.elim
  | false => exact ⟨rfl, h⟩
theorem erStr_inv {s : Str} (h : vcE Sp r rs Xc (erStr s) c Q) : ∃ k, codeOf s = some k ∧ vcE Sp r rs Xc (.str k) c Q := by
  unfold erStr at h
  cases e : codeOf s with
  | none =>
    rw [e] at h
    exact h.elim
  | some k =>
    rw [e] at h
    exact ⟨k, rfl, h⟩
theorem erGl_inv {x : Str} (h : vcE Sp r rs Xc (erGl ns x) c Q) : ∃ k, glIdx ns x = some k ∧ vcE Sp r rs Xc (.gl k) c Q := by
  unfold erGl at h
  cases e : glIdx ns x with
  | none =>
    rw [e] at h
    exact h.elim
  | some k =>
    rw [e] at h
    exact ⟨k, rfl, h⟩
theorem erVar_inv {x : Str} (h : vcE Sp r rs Xc (erVar ns x) c Q) : (∃ k, lvIdx ns x = some k ∧ vcE Sp r rs Xc (.lv k) c Q) ∨ vcE Sp r rs Xc (erGl ns x) c Q := by
  unfold erVar at h
  cases e : lvIdx ns x with
  | none =>
    rw [e] at h
    exact .inr h
  | some k =>
    rw [e] at h
    exact .inl ⟨k, rfl, h⟩
theorem erAttr_inv {o : ME} {a : Str} (h : vcE Sp r rs Xc (erAttr o a) c Q) : ∃ k, codeOf a = some k ∧ vcE Sp r rs Xc (.attr o k) c Q := by
  unfold erAttr at h
  cases e : codeOf a with
  | none =>
    rw [e] at h
    exact h.elim
  | some k =>
    rw [e] at h
    exact ⟨k, rfl, h⟩
theorem erMeth_inv {o : ME} {a : Str} {args : List ME} (h : vcE Sp r rs Xc (erMeth o a args) c Q) : ∃ k, codeOf a = some k ∧ vcE Sp r rs Xc (.meth o k args) c Q := by
  unfold erMeth at h
  cases e : codeOf a with
  | none =>
    rw [e] at h
    exact h.elim
  | some k =>
    rw [e] at h
    exact ⟨k, rfl, h⟩
theorem erBin_inv {a b : ME} {o : Option BOp} (h : vcE Sp r rs Xc (erBin a b o) c Q) : ∃ k, o = some k ∧ vcE Sp r rs Xc (.bin k a b) c Q := by
  cases o with
  | none => exact h.elim
  | some k => exact ⟨k, rfl, h⟩
end
theorem snd_cmp {f : Expr → ME} {a : ME} {ops : List CmpOp} {bs : List Expr} {P : ME → Prop} (hb : ¬ P .bad) (h : P (erCmp f a ops bs)) : ∃ o b, ops = [copOf o] ∧ bs = [b] ∧ isSet b = false ∧ P (.cmp o a (f b)) := by
  rcases ops with _ | ⟨op, _ | ⟨o2, os⟩⟩
  · exact (hb h).elim
  · rcases bs with _ | ⟨b, _ | ⟨b2, bs⟩⟩
    · exact (hb h).elim
    · have h : P (if isSet b then .bad else match cmpOf op with
        | some o => .cmp o a (f b)
        | none => .bad) := h
      cases hs : isSet b with
      | true =>
        rw [hs] at h
        exact (hb h).elim
      | false =>
        rw [hs] at h
        cases ho : cmpOf op with
        | none =>
          rw [ho] at h
          exact (hb h).elim
        | some o =>
          rw [ho] at h
          exact ⟨o, b, by rw [cmpOf_eq ho], rfl, hs, h⟩
    · exact (hb h).elim
  · exact (hb h).elim
theorem snd_comp (W : Wld X Sp) (H : Snd X Sp n) (E : EnvOK env ns) {elt target iter : Expr} {ifs : List Expr} {scope : Scope} {pos : Pos} {Q : MV → AS → Prop}
    (h : vcE Sp r X.ns Xc (erComp ns (ownNames ns scope.names) scope (er (ownNames ns scope.names) n elt) (er ns n iter) (condOf (er (ownNames ns scope.names) n) ifs) (compOK ns scope && !isSet iter) (tgOf (ownNames ns scope.names) target)) c Q) :
    SemE X r env ns Xc (eval (.ListComp elt [⟨target, iter, ifs, 0⟩] scope pos) env) c Q := by
  obtain ⟨G, GG, CC, SO⟩ := W
  clear CC GG SO
  cases htg : tgOf (ownNames ns scope.names) target with
  | none =>
    rw [htg] at h
    exact h.elim
  | some tg =>
    rw [htg] at h
    cases hok : compOK ns scope && !isSet iter with
    | false =>
      rw [hok] at h
      exact h.elim
    | true =>
      rw [hok] at h
      simp only [Bool.and_eq_true, Bool.not_eq_true'] at hok
      refine sem_comp (tg := tg) (FE := vcE Sp r X.ns False (er (ownNames ns scope.names) n elt)) (FT := vcC Sp r X.ns False (condOf (er (ownNames ns scope.names) n) ifs))
        (Q1 := fun v c₁ => onP (iterOf c₁.σ v) fun l => l.length ≤ lim ∧ vcComp (vcE Sp r X.ns False (er (ownNames ns scope.names) n elt)) (vcC Sp r X.ns False (condOf (er (ownNames ns scope.names) n) ifs)) (stillAt v c₁.σ) tg c₁.σ.length l
          ⟨capR c₁.ρ (capsOf ns (ownNames ns scope.names) 0 scope.names) (ownNames ns scope.names).length, c₁.σ ++ [.lst []]⟩ fun c₂ => Q (.loc c₁.σ.length) ⟨c₁.ρ, c₂.σ⟩)
        G E (compOK_of hok.1) hok.2 htg (ownNames ns scope.names) (fun cenv EC c Q h => H.E elt _ r cenv False c Q EC h) (fun cenv EC c B h => ?_) (H.E iter ns r env Xc c _ E ?_) fun v c1 h' => h'
      · clear E G hok htg pos target
        rcases ifs with _ | ⟨t, _ | ⟨t2, ts⟩⟩
        · exact fun A as s K Ex ac st z_ hk hx => wpAny_tests_nil (hk _ _ c as s (.refl ac st) rfl h)
        · exact fun A as s K Ex ac st hp hk hx => wpAny_tests_one ((H.T t _ r cenv False c B EC h) A as s K Ex ac st hp hk hx)
        · exact h.elim
      · exact h
theorem snd_slc (W : Wld X Sp) (H : Snd X Sp n) (E : EnvOK env ns) {a : Expr} {lo hi st : Option Expr} {p pos : Pos} {Q : MV → AS → Prop}
    (h : vcE Sp r X.ns Xc (erSlc (er ns n) (er ns n a) lo hi st) c Q) : SemE X r env ns Xc (eval (.Subscript a (.Slice lo hi st p) pos) env) c Q := by
  have G := W.G
  clear W
  rcases lo with _ | lo
  · rcases hi with _ | hi
    · rcases st with _ | st
      · exact h.elim
      · cases st with
        | UnaryOp op u q =>
          cases op with
          | USub =>
            cases u with
            | Constant cst k q2 =>
              cases cst with
              | int i =>
                by_cases hi : i = 1
                · subst hi
                  exact sem_rev G (H.E a ns r env Xc c _ E h) fun m c2 h' => h'
                · have h : vcE Sp r X.ns Xc (if i = 1 then .slc (er ns n a) none none true else .bad) c Q := h
                  rw [if_neg hi] at h
                  exact h.elim
              | _ => exact h.elim
            | _ => exact h.elim
          | _ => exact h.elim
        | _ => exact h.elim
    · rcases st with _ | st
      · exact sem_upto G (H.E a ns r env Xc c _ E h) (fun v c1 h' => H.E _ ns r env Xc c1 _ E h') fun m k c2 h' => h'
      · exact h.elim
  · rcases hi with _ | hi
    · rcases st with _ | st
      · exact sem_from G (H.E a ns r env Xc c _ E h) (fun v c1 h' => H.E _ ns r env Xc c1 _ E h') fun m k c2 h' => h'
      · exact h.elim
    · cases st <;> exact h.elim
theorem isEmpty_nil {α : Type} {l : List α} (h : l.isEmpty = true) : l = [] := by
  cases l with
  | nil => rfl
  | cons => cases h
theorem stepE (W : Wld X Sp) (H : Snd X Sp n) : ∀ e ns r env Xc c Q, EnvOK env ns → vcE Sp r X.ns Xc (er ns (n + 1) e) c Q → SemE X r env ns Xc (eval e env) c Q := by
  intro e ns r env Xc c Q E h
  have W' := W
  obtain ⟨G, GG, CC, SO⟩ := W
  cases e with
  | BoolOp op values pos =>
    clear CC G GG SO W'
    rcases values with _ | ⟨a, _ | ⟨b, _ | ⟨d, l⟩⟩⟩
    · exact h.elim
    · exact h.elim
    · cases op with
      | And =>
        exact sem_and (H.E a ns r env Xc c _ E h) fun v c1 h' => by
          clear h pos
          obtain ⟨t, ht, hq⟩ := onP_elim h'
          refine ⟨t, ht, fun e => ?_, fun e => ?_⟩
          · clear a c h' ht
            subst e; exact H.E b ns r env Xc c1 _ E hq
          · clear E H a c env h' ht
            subst e; exact hq
      | Or =>
        exact sem_or (H.E a ns r env Xc c _ E h) fun v c1 h' => by
          clear h pos
          obtain ⟨t, ht, hq⟩ := onP_elim h'
          refine ⟨t, ht, fun e => ?_, fun e => ?_⟩
          · clear a c h' ht
            subst e; exact H.E b ns r env Xc c1 _ E hq
          · clear E H a c env h' ht
            subst e; exact hq
    · exact h.elim
  | BinOp a op b pos =>
    clear CC GG SO W'
    obtain ⟨o, ho, h⟩ := erBin_inv (o := binOf op) h
    rw [binOf_eq ho]
    exact sem_bin G (H.E a ns r env Xc c _ E h) (fun v c1 h' => H.E b ns r env Xc c1 _ E h') fun m k c2 h' => h'
  | UnaryOp op a pos =>
    clear CC G GG SO W'
    cases op with
    | Not => exact sem_not (H.E a ns r env Xc c _ E h)
    | USub => exact sem_neg (H.E a ns r env Xc c _ E h)
    | _ => exact h.elim
  | IfExp t a b pos =>
    exact sem_ite (H.T t ns r env Xc c _ E h) fun x c1 h' => ⟨fun e => by subst e; exact H.E a ns r env Xc c1 _ E h', fun e => by subst e; exact H.E b ns r env Xc c1 _ E h'⟩
  | Dict ks vs pos =>
    clear CC E G GG H SO W'
    rcases ks with _ | ⟨k, ks⟩
    · rcases vs with _ | ⟨v, vs⟩
      · exact sem_dct0 h
      · exact h.elim
    · exact h.elim
  | ListComp elt gens scope pos =>
    clear CC G GG SO
    rcases gens with _ | ⟨⟨target, iter, ifs, asy⟩, _ | ⟨g, gs⟩⟩
    · exact h.elim
    · have h : vcE Sp r X.ns Xc (if asy != 0 then .bad else erComp ns (ownNames ns scope.names) scope (er (ownNames ns scope.names) n elt) (er ns n iter) (condOf (er (ownNames ns scope.names) n) ifs) (compOK ns scope && !isSet iter) (tgOf (ownNames ns scope.names) target)) c Q := h
      obtain ⟨ha, h⟩ := ite_bad h
      have ha : asy = 0 := by simpa using ha
      subst ha
      exact snd_comp W' H E h
    · exact h.elim
  | Compare a ops bs pos =>
    clear CC GG SO W'
    obtain ⟨o, b, rfl, rfl, hs, h⟩ := snd_cmp (P := fun m => vcE Sp r X.ns Xc m c Q) (fun q => q.elim) h
    exact sem_cmp G (set_marked hs _) (H.E a ns r env Xc c _ E h) (fun v c1 h' => H.E b ns r env Xc c1 _ E h') fun m k c2 h' => h'
  | Call f args kws pos =>
    have h1 : vcE Sp r X.ns Xc (if !kws.isEmpty || args.length > 9 || args.any isStar then .bad else erCall (er ns n) f (args.map (er ns n)) pos) c Q := h
    clear h
    obtain ⟨hg, h⟩ := ite_bad h1
    clear h1
    simp only [Bool.or_eq_false_iff, decide_eq_false_iff_not, Bool.not_eq_false'] at hg
    obtain ⟨⟨hk, hl⟩, hst⟩ := hg
    have hk := isEmpty_nil hk
    subst hk
    by_cases hf : ∃ o m apos, f = .Attribute o m apos
    · obtain ⟨o, m, apos, rfl⟩ := hf
      have h : vcE Sp r X.ns Xc (if isBareCall o || apos.endLine != pos.line then .bad else erMeth (er ns n o) m (args.map (er ns n))) c Q := h
      obtain ⟨hg, h⟩ := ite_bad h
      simp only [Bool.or_eq_false_iff, bne_eq_false_iff_eq] at hg
      obtain ⟨k, hk, h⟩ := erMeth_inv h
      exact sem_meth G CC SO hk hg.1 (by rw [hg.2]; exact beq_self_eq_true _) (by omega) hst (H.E o ns r env Xc c _ E h) (fun v c1 h' => by
        clear CC G GG SO W' h hg hk hl hst
        obtain ⟨mk, hmk, hq⟩ := onP_elim h'
        rw [hmk]
        exact snd_list H E args hq) fun v mk ms c2 h' => h'
    · have hna : NotAttr f := fun args pos env => by cases f <;> first | rfl | exact absurd ⟨_, _, _, rfl⟩ hf
      have he : erCall (er ns n) f (args.map (er ns n)) pos = .call (er ns n f) (args.map (er ns n)) := by cases f <;> first | rfl | exact absurd ⟨_, _, _, rfl⟩ hf
      have h : vcE Sp r X.ns Xc (erCall (er ns n) f (args.map (er ns n)) pos) c Q := h
      rw [he] at h
      exact sem_call G CC SO hst hna (H.E f ns r env Xc c _ E h) (fun v c1 h' => snd_list H E args h') fun v ms c2 h' => h'
  | Constant cst k pos =>
    clear CC E G GG H SO W'
    cases cst with
    | none => exact sem_none h
    | bool b => exact sem_bool h
    | int i => exact sem_int h
    | str x =>
      obtain ⟨k, hk, h⟩ := erStr_inv h
      exact sem_str hk h
    | _ => exact h.elim
  | Attribute o a pos =>
    clear GG SO W'
    obtain ⟨hb, h⟩ := ite_bad h
    obtain ⟨k, hk, h⟩ := erAttr_inv h
    exact sem_attr G CC hk hb (H.E o ns r env Xc c _ E h)
  | Subscript a i pos =>
    by_cases hi : ∃ lo hi st p, i = .Slice lo hi st p
    · clear CC G GG SO
      obtain ⟨lo, hi, st, p, rfl⟩ := hi
      exact snd_slc W' H E h
    · have hs : NotSlice i := fun o j => by cases i <;> first | rfl | exact absurd ⟨_, _, _, _, rfl⟩ hi
      have he : erSub (er ns n) (er ns n a) i = .sub (er ns n a) (er ns n i) := by cases i <;> first | rfl | exact absurd ⟨_, _, _, _, rfl⟩ hi
      have h : vcE Sp r X.ns Xc (erSub (er ns n) (er ns n a) i) c Q := h
      rw [he] at h
      exact sem_sub G hs (H.E a ns r env Xc c _ E h) (fun v c1 h' => H.E i ns r env Xc c1 _ E h') fun m k c2 h' => h'
  | Name x pos =>
    clear CC H SO W'
    obtain ⟨hd, h⟩ := ite_bad h
    rcases erVar_inv h with ⟨i, hi, h⟩ | h
    · exact sem_lv E hd hi h
    · obtain ⟨k, hk, h⟩ := erGl_inv h
      exact sem_gl G GG E hd hk h
  | List es pos => exact sem_lst (snd_list H E es h)
  | Tuple es k pos => exact sem_tup (snd_list H E es h)
  | _ => exact h.elim
end
end Mine
namespace Mine
noncomputable def isJ (e : ME) : Bool := Nat.beq e.ctorIdx 6 || (Nat.ble 8 e.ctorIdx && Nat.ble e.ctorIdx 10)
section
variable {X : Cx} {Sp : Spec} {n r : Nat} {env : Env} {ns : Names} {Xc : Prop} {c : AS}
theorem vcT_dflt {m : ME} {B : Bool → AS → Prop} (h : isJ m = false) : vcT Sp r X.ns Xc m c B = vcE Sp r X.ns Xc m c fun v c₁ => onP (vTruth v) fun b => B b c₁ := by
  cases m <;> first | rfl | exact no h
noncomputable def plainT (e : Expr) : Bool := !(Nat.beq e.ctorIdx 0 || Nat.beq e.ctorIdx 3 || Nat.beq e.ctorIdx 5 || Nat.beq e.ctorIdx 15)
theorem isTrue_plain {e : Expr} (h : plainT e = true) (env : Env) (w : Sem Value) : isTrue e env w = (do let v ← w; standAt e.pos; holding [v] (truthy v)) := by
  cases e <;> first | rfl | exact no' h
theorem j_ite {b : Bool} {e : ME} (h : isJ e = false) : isJ (if b then .bad else e) = false := by cases b <;> first | exact h | rfl
theorem j_str (s : Str) : isJ (erStr s) = false := by unfold erStr; cases codeOf s <;> rfl
theorem j_gl (x : Str) : isJ (erGl ns x) = false := by unfold erGl; cases glIdx ns x <;> rfl
theorem j_var (x : Str) : isJ (erVar ns x) = false := by
  unfold erVar
  cases lvIdx ns x with
  | none => exact j_gl x
  | some => rfl
theorem j_attr (o : ME) (a : Str) : isJ (erAttr o a) = false := by unfold erAttr; cases codeOf a <;> rfl
theorem j_meth (o : ME) (a : Str) (l : List ME) : isJ (erMeth o a l) = false := by unfold erMeth; cases codeOf a <;> rfl
theorem j_rev (a : ME) (e : Expr) : isJ (erRev a e) = false := by
  unfold erRev
  split
  · split <;> rfl
  · rfl
theorem j_slc (f : Expr → ME) (a : ME) (lo hi st : Option Expr) : isJ (erSlc f a lo hi st) = false := by
  cases lo <;> cases hi <;> cases st <;> first | rfl | exact j_rev _ _
theorem j_comp (ns ni : Names) (scope : Scope) (elt iter : ME) (conds : Option ME) (ok : Bool) (t : Option (List Nat)) : isJ (erComp ns ni scope elt iter conds ok t) = false := by
  cases t <;> cases ok <;> rfl
theorem j_bin (a b : ME) (o : Option BOp) : isJ (erBin a b o) = false := by cases o <;> rfl
theorem er_plain {e : Expr} (h : plainT e = true) : isJ (er ns (n + 1) e) = false := by
  cases e with
  | BinOp a op b pos => exact j_bin _ _ _
  | Dict ks vs pos => cases ks <;> cases vs <;> rfl
  | ListComp elt gens scope pos =>
    rcases gens with _ | ⟨⟨target, iter, ifs, asy⟩, _ | ⟨g, gs⟩⟩
    · rfl
    · exact j_ite (b := asy != 0) (j_comp _ _ _ _ _ _ _ _)
    · rfl
  | Call f args kws pos =>
    refine j_ite (b := !kws.isEmpty || args.length > 9 || args.any isStar) (?_ : isJ (erCall (er ns n) f (args.map (er ns n)) pos) = false)
    cases f with
    | Attribute o m apos => exact j_ite (b := isBareCall o || apos.endLine != pos.line) (j_meth _ _ _)
    | _ => rfl
  | Constant cst k pos => cases cst <;> first | rfl | exact j_str _
  | Attribute o a pos => exact j_ite (b := isBareCall o) (j_attr _ _)
  | Subscript a i pos =>
    cases i with
    | Slice lo hi st p => exact j_slc _ _ _ _ _
    | _ => rfl
  | Name x pos => exact j_ite (b := x == ("__debug__" : Str)) (j_var _)
  | _ => first | rfl | cases h
set_option tactic.hygienic true in
theorem stepT (W : Wld X Sp) (H : Snd X Sp n) : ∀ e ns r env Xc c B, EnvOK env ns → vcT Sp r X.ns Xc (er ns (n + 1) e) c B → SemB X r env ns Xc (isTrue e env (eval e env)) c B := by
  intro e ns r env Xc c B E h
  by_cases hp : plainT e = true
  · rw [vcT_dflt (er_plain hp)] at h
    exact semT_of (isTrue_plain hp env _) (stepE W H e ns r env Xc c _ E h)
  · obtain ⟨G, GG, CC, SO⟩ := W
    cases e <;> try exact absurd rfl hp
    case BoolOp op values pos =>
      rcases values with _ | ⟨a, _ | ⟨b, _ | ⟨d, l⟩⟩⟩
      · exact h.elim
      · exact h.elim
      · cases op with
        | And => exact semT_and (H.T a ns r env Xc c _ E h) fun t c1 h' => ⟨fun e => by subst e; exact H.T b ns r env Xc c1 _ E h', fun e => by subst e; exact h'⟩
        | Or => exact semT_or (H.T a ns r env Xc c _ E h) fun t c1 h' => ⟨fun e => by subst e; exact H.T b ns r env Xc c1 _ E h', fun e => by subst e; exact h'⟩
      · exact h.elim
    case UnaryOp op a pos =>
      cases op with
      | Not => exact semT_not (H.T a ns r env Xc c _ E h)
      | USub => exact semT_of rfl (sem_neg (H.E a ns r env Xc c _ E h))
      | _ => exact h.elim
    case IfExp t a b pos =>
      exact semT_ite (H.T t ns r env Xc c _ E h) fun x c1 h' => ⟨fun e => by subst e; exact H.T a ns r env Xc c1 _ E h', fun e => by subst e; exact H.T b ns r env Xc c1 _ E h'⟩
    case Compare a ops bs pos =>
      obtain ⟨o, b, rfl, rfl, hs, h⟩ := snd_cmp (P := fun m => vcT Sp r X.ns Xc m c B) (fun q => q.elim) h
      exact sem_cmpT G (set_marked hs _) (H.E a ns r env Xc c _ E h) (fun v c1 h' => H.E b ns r env Xc c1 _ E h') fun m k c2 h' => h'
theorem snd (W : Wld X Sp) : ∀ n, Snd X Sp n := fun y1_ => match y1_ with
  | 0 => snd_zero
  | n + 1 => ⟨stepE W (snd W n), stepT W (snd W n)⟩
end
end Mine
namespace Mine
/-! ## statements -/
structure AtS (X : Cx) (r np : Nat) (env : Env) (names : Names) (A : Around) (as : List Addr) (s : Shared) (c' : AS) (as' : List Addr) (s' : Shared) : Prop where
  cond : ACond X A r as' s'.heap
  st : St X env names c' as' s'.heap
  kp : Kp (frAddrs A) (env.locals :: as) s.heap s'.heap
  own : ∀ x ∈ as', x ∈ as ∨ s.heap.get? x = none
  pre : as'.take np = as.take np
  there : ∀ b, s'.heap.get? b = none → s.heap.get? b = none
  same : ∃ h tk, s' = { s with heap := h, toks := tk }
noncomputable def RF (X : Cx) (as : List Addr) (h : Heap) : Flow → Fl → Prop := fun y1_ y2_ => match y1_, y2_ with
  | .next, .nxt => True
  | .cont, .cnt => True
  | .ret v, .ret m => RepM X as h v m
  | z1_, z2_ => False
noncomputable def FrTop (A : Around) (env : Env) : Prop := env.frame = some env.locals ∧ ∃ outer, A.frames = some (env :: outer)
noncomputable def SemS (X : Cx) (r np : Nat) (env : Env) (names : Names) (Xc : Prop) (t : Sem Flow) (c : AS) (Q : Fl → AS → Prop) : Prop :=
  ∀ (A : Around) (as : List Addr) (s : Shared) (K : Flow → Shared → Prop) (E : Value → Shared → Prop), ACond X A r as s.heap → St X env names c as s.heap → np ≤ as.length → FrTop A env →
    (∀ f fl c' as' s', AtS X r np env names A as s c' as' s' → RF X as' s'.heap f fl → Q fl c' → K f s') →
    (Xc → ∀ e s', ThrownAt X env A as s e s' → E (.ref e) s') →
    wpAny (model X.prog X.w) A t K E s
section
variable {X : Cx} {r np : Nat} {env : Env} {names : Names} {Xc : Prop} {A : Around} {as as' as'' : List Addr} {s s' s'' : Shared} {c c' c'' : AS}
theorem At.toS (n : At X r env names A as s c' as' s') (h : np ≤ as.length) : AtS X r np env names A as s c' as' s' := by
  obtain ⟨bs, e, hb⟩ := n.ext
  refine ⟨n.cond, n.st, n.kp, fun x hx => ?_, ?_, n.there', n.same⟩
  · rw [e] at hx
    exact (List.mem_append.mp hx).imp id (hb x)
  · rw [e, List.take_append_of_le_length h]
theorem AtS.len (n : AtS X r np env names A as s c' as' s') (h : np ≤ as.length) : np ≤ as'.length := by
  have := congrArg List.length n.pre
  rw [List.length_take, List.length_take, Nat.min_eq_left h] at this
  exact this ▸ Nat.min_le_right _ _
theorem AtS.owned' (n : AtS X r np env names A as s c' as' s') : ∀ b ∈ env.locals :: as', b ∈ env.locals :: as ∨ s.heap.get? b = none := fun b hb => by
  rcases List.mem_cons.mp hb with rfl | hb
  · exact .inl (.head _)
  · exact (n.own b hb).imp (.tail _) id
theorem AtS.then (n : AtS X r np env names A as s c' as' s') (n' : AtS X r np env names A as' s' c'' as'' s'') : AtS X r np env names A as s c'' as'' s'' := by
  refine ⟨n'.cond, n'.st, n.kp.trans n'.kp n.owned', fun x hx => ?_, n'.pre.trans n.pre, fun b e => n.there b (n'.there b e), ?_⟩
  · have q_ := n'.own x hx
    clear hx n'
    rcases q_ with q | q
    · exact n.own x q
    · exact .inr (n.there x q)
  · have q_ := n.same
    clear n
    obtain ⟨h, tk, rfl⟩ := q_
    clear as c'
    have q_ := n'.same
    clear n' names np r
    obtain ⟨h', tk', rfl⟩ := q_
    exact ⟨h', tk', rfl⟩
theorem ThrownAt.afterS (n : AtS X r np env names A as s c' as' s') {e : Addr} (t : ThrownAt X env A as' s' e s'') : ThrownAt X env A as s e s'' := by
  refine ⟨t.base, n.kp.trans t.kp n.owned', t.fr, t.exc, n.there _ t.new, fun T hT => n.there _ (t.newT T hT), fun b hb => n.there _ (t.there b hb), ?_⟩
  have q_ := n.same
  clear n
  obtain ⟨h, tk, rfl⟩ := q_
  clear as c' names np r
  have q_ := t.same
  clear t
  obtain ⟨h', tk', rfl⟩ := q_
  exact ⟨h', tk', rfl⟩
theorem AtS.refl (a : ACond X A r as s.heap) (st : St X env names c as s.heap) : AtS X r np env names A as s c as s :=
  ⟨a, st, Kp.refl _ _ _, fun z_ h => .inl h, rfl, fun z_ h => h, ⟨s.heap, s.toks, rfl⟩⟩
theorem SemS.next {t : Sem Flow} {Q : Fl → AS → Prop} {K : Flow → Shared → Prop} {E : Value → Shared → Prop} (h : SemS X r np env names Xc t c' Q) (n : AtS X r np env names A as s c' as' s') (hn : np ≤ as.length) (hf : FrTop A env)
    (hk : ∀ f fl c'' as'' s'', AtS X r np env names A as s c'' as'' s'' → RF X as'' s''.heap f fl → Q fl c'' → K f s'') (hx : Xc → ∀ e s'', ThrownAt X env A as s e s'' → E (.ref e) s'') : wpAny (model X.prog X.w) A t K E s' :=
  h A as' s' K E n.cond n.st (n.len hn) hf (fun f fl c'' as'' s'' n' hr hq => hk f fl c'' as'' s'' (n.then n') hr hq) fun x e s'' t => hx x e s'' (t.afterS n)
/-- an expression's tree as the first part of a statement -/
theorem SemP.start {α β : Type} {P : List Addr → Heap → Prop} {R : List Addr → Heap → α → β → Prop} {t : Sem α} {Q : β → AS → Prop} (h : SemP X r env names Xc P R t c' Q) (n : AtS X r np env names A as s c' as' s') (hn : np ≤ as.length) (hP : P as' s'.heap) {K : α → Shared → Prop} {E : Value → Shared → Prop}
    (hk : ∀ a b c'' as'' s'', AtS X r np env names A as s c'' as'' s'' → At X r env names A as' s' c'' as'' s'' → R as'' s''.heap a b → Q b c'' → K a s'') (hx : Xc → ∀ e s'', ThrownAt X env A as s e s'' → E (.ref e) s'') : wpAny (model X.prog X.w) A t K E s' :=
  h A as' s' K E n.cond n.st hP (fun a b c'' as'' s'' n' hr hq => hk a b c'' as'' s'' (n.then (n'.toS (n.len hn))) n' hr hq) fun x e s'' t => hx x e s'' (t.afterS n)

theorem semS_ret {e : Expr} {pos} {Q : Fl → AS → Prop} (h : SemE X r env names Xc (eval e env) c fun v c₁ => Q (.ret v) c₁) : SemS X r np env names Xc (exec (.Return (some e) pos) env) c Q :=
  fun A as s K E ac st hn hf hk hx => wpAny_Return_some (h.start (.refl ac st) hn trivial (fun v m c1 as1 s1 n1 z_ r1 q1 => hk (.ret v) (.ret m) c1 as1 s1 n1 r1 q1) hx)
theorem semS_cnt {pos} {Q : Fl → AS → Prop} (h : Q .cnt c) : SemS X r np env names Xc (exec (.Continue pos) env) c Q :=
  fun A as s K E ac st hn hf hk hx => wpAny_Continue (hk .cont .cnt c as s (.refl ac st) trivial h)
theorem notInter (E : EnvOK env names) : interactive env = false := by unfold interactive; rw [E.kind]; rfl
theorem swaps_no {v : Expr} (h : isComp v = false) (t : Option Expr) (l : Nat) (env : Env) : swapsWith v t l env = pure false := by
  cases v <;> first | rfl | exact no h
theorem semS_ex (E : EnvOK env names) {e : Expr} {pos} (hc : isComp e = false) {Q : Fl → AS → Prop} (h : SemE X r env names Xc (eval e env) c fun z_ c₁ => Q .nxt c₁) : SemS X r np env names Xc (exec (.Expr e pos) env) c Q :=
  fun A as s K Ex ac st hn hf hk hx => wpAny_Expr_any (h.start (.refl ac st) hn trivial (fun v m c1 as1 s1 n1 z_ r1 q1 => hk .next .nxt c1 as1 s1 n1 trivial q1) hx) (notInter E) (swaps_no hc _ _ _)
theorem semS_if {t : Expr} {a b : List Stmt} {pos} {Q : Fl → AS → Prop} {B1 : Bool → AS → Prop} (h1 : SemB X r env names Xc (isTrue t env (eval t env)) c B1)
    (h2 : ∀ x c1, B1 x c1 → (x = true → SemS X r np env names Xc (execs a env) c1 Q) ∧ (x = false → SemS X r np env names Xc (execs b env) c1 Q)) : SemS X r np env names Xc (exec (.If t a b pos) env) c Q := by
  intro A as s K E ac st hn hf hk hx
  refine wpAny_If (h1.start (.refl ac st) hn trivial (fun t t' c1 as1 s1 n1 z_ e q1 => ?_) hx)
  clear ac h1 pos st z_
  cases e
  obtain ⟨h3, h4⟩ := h2 _ c1 q1
  clear h2 q1
  cases t with
  | true => exact (h3 rfl).next n1 hn hf hk hx
  | false => exact (h4 rfl).next n1 hn hf hk hx
theorem semB_nil {Q : Fl → AS → Prop} (h : Q .nxt c) : SemS X r np env names Xc (execs [] env) c Q :=
  fun A as s K E ac st hn hf hk hx => wpAny_execs_nil (hk .next .nxt c as s (.refl ac st) trivial h)
theorem semB_cons {st : Stmt} {rest : List Stmt} {Q : Fl → AS → Prop} {k : AS → Prop} (h1 : SemS X r np env names Xc (exec st env) c (thenS k Q)) (h2 : ∀ c1, k c1 → SemS X r np env names Xc (execs rest env) c1 Q) : SemS X r np env names Xc (execs (st :: rest) env) c Q := by
  intro A as s K E ac st hn hf hk hx
  refine wpAny_execs_cons (h1 A as s _ E ac st hn hf (fun f fl c1 as1 s1 n1 hr hq => ?_) hx)
  clear ac h1 st
  cases f with
  | next =>
    clear st
    cases fl with
    | nxt => exact (h2 c1 hq).next n1 hn hf hk hx
    | cnt => exact hr.elim
    | ret m => exact hr.elim
  | cont =>
    clear h2 hf hn hx st
    cases fl with
    | cnt => exact hk .cont .cnt c1 as1 s1 n1 trivial hq
    | nxt => exact hr.elim
    | ret m => exact hr.elim
  | ret v =>
    clear h2 hf hn hx st
    cases fl with
    | ret m => exact hk (.ret v) (.ret m) c1 as1 s1 n1 hr hq
    | nxt => exact hr.elim
    | cnt => exact hr.elim
  | brk => cases fl <;> exact hr.elim
theorem semS_asg (G : X.Good) (E : EnvOK env names) {x : Str} {i : Nat} {p pos} {e : Expr} (hc : isComp e = false) (hi : names[i]? = some (x, .local)) {Q : Fl → AS → Prop} (h : SemE X r env names Xc (eval e env) c fun v c₁ => Q .nxt ⟨c₁.ρ.set i (some v), c₁.σ⟩) :
    SemS X r np env names Xc (exec (.Assign [.Name x p] e pos) env) c Q :=
  fun A as s K Ex ac st hn hf hk hx => wpAny_Assign_Name (h.start (.refl ac st) hn trivial (fun v m c1 as1 s1 n1 z_ r1 q1 =>
    (sem_store (r := r) (Xc := Xc) G E hi (c := c1) (Q := fun z_ c' => c' = ⟨c1.ρ.set i (some m), c1.σ⟩) rfl).start n1 hn r1 (fun z_ z_ c2 as2 s2 n2 z_ z_ q2 => by subst q2; exact hk .next .nxt _ as2 s2 n2 trivial q1) hx) hx) (swaps_no hc _ _ _)
end
end Mine
namespace Mine
section
variable {X : Cx} {r np : Nat} {env : Env} {names : Names} {Xc : Prop} {A : Around} {as as' as'' : List Addr} {s s' s'' : Shared} {c c' c'' : AS}
theorem Assign_one {t : Expr} {value : Expr} {pos : Pos} {M : Model} {E : Value → Shared → Prop} {Q : Flow → Shared → Prop}
    (h : wpAny M A (eval value env) (fun v s₁ => wpAny M A (assign t env v) (fun z_ => Q .next) E s₁) E s) (ht : assignEach [t] env = [(false, assign t env)])
    (hs : swapsWith value (some t) pos.line env = pure false) (hw : swappedStores [t] value env = pure none) : wpAny M A (exec (.Assign [t] value pos) env) Q E s := by
  refine wpAny_Assign_stores (wpAny_mono h (fun v s₁ h₁ => ?_) fun z_ z_ x => x) hs hw
  rw [ht]
  exact h₁
theorem semS_setA (G : X.Good) (CC : ClassesOK X) {o e : Expr} {x : Str} {k : Nat} {p pos} (hx' : codeOf x = some k) (hc : isComp e = false) {Q : Fl → AS → Prop} {Q1 : MV → AS → Prop} {Q2 : MV → MV → AS → Prop}
    (h1 : SemE X r env names Xc (eval e env) c Q1) (h2 : ∀ v c1, Q1 v c1 → SemE X r env names Xc (eval o env) c1 (Q2 v)) (h3 : ∀ v ov c2, Q2 v ov c2 → onP (vSetA c2.σ k v ov) fun σ' => Q .nxt ⟨c2.ρ, σ'⟩) :
    SemS X r np env names Xc (exec (.Assign [.Attribute o x p] e pos) env) c Q := by
  obtain ⟨hl, he, _⟩ := List.findIdx?_eq_some_iff_getElem.mp hx'
  have ex : x = S k := by rw [S_at hl, ← eq_of_beq he]
  clear he hx'
  subst ex
  intro A as s K Ex ac st hn hf hk hx
  refine Assign_one (h1.start (.refl ac st) hn trivial (fun v m c1 as1 s1 n1 z_ r1 q1 => ?_) hx) rfl (swaps_no hc _ _ _) rfl
  show wpAny _ _ (do let ov ← holding [v] (eval o env); standAt p.atName; holding [v, ov] (setAttr ov (S k) v); release [v, ov] []) _ _ _
  refine wpAny_bind (wpAny_holding ((h2 m c1 q1).start n1 hn trivial (fun ov mo c2 as2 s2 n2 n2' r2 q2 => ?_) hx))
  clear ac h1 h2 hc hf o pos q1 st
  obtain ⟨σ', hσ, hq⟩ := onP_elim (h3 m mo c2 q2)
  refine wpAny_bind (wpAny_standAt (wpAny_bind (wpAny_holding ((pm_set (r := r) (Xc := Xc) (env := env) (names := names) G CC hσ (Q := fun z_ c' => c' = ⟨c2.ρ, σ'⟩) rfl).start n2 hn ⟨r2, n2'.rep n1.cond n1.st r1⟩ (fun z_ z_ c3 as3 s3 n3 z_ z_ q3 => ?_) hx))))
  clear CC G Q1 e h3 hn hx hσ n1 n2 n2' p q2 r1 r2 z_
  subst q3
  exact wpAny_release (hk .next .nxt _ as3 s3 n3 trivial hq)
theorem setItem_mine {l : Addr} {items : Array Value} {k : Int} {n : Nat} {t : Tok} {v : Value} {K : Unit → Shared → Prop} {E : Value → Shared → Prop} {prog : Program} {w : World} (ho : s.heap.get? l = some { cls := .type "list", dict := none, data := .seq items n, slots := #[] })
    (h0 : 0 ≤ k) (hfit : k < 2 ^ 63) (hn : k < items.size)
    (hQ : K () { s with heap := s.heap.update l (Obj.mapSeq (·.setIfInBounds k.toNat v)) }) : wpAny (model prog w) A (setItem (.ref l) (.int k t) v) K E s := by
  have hl : s.heap.IsList l items := ⟨_, ho, rfl, n, rfl⟩
  unfold setItem
  try with_reducible refine wpAny_holding ?_
  first | refine wpAny_bind (wpAny_pure ?_) | skip
  refine wpAny_bind (wpAny_sequenceKey hl.typeIs (by decide) ?_)
  refine wpAny_bind (wpAny_callSpecial?_slot (name := Str.ofString "__setitem__") hl.typeIs slot_list_setitem
    (wpAny_call_entry slot_list_setitem hl.typeIs entry_list_setitem ?_ (args_list_setitem _ _ _)))
  show wpAny _ _ (Builtin.List.listSubscript? (.int k t) >>= _) _ _ s
  refine wpAny_bind (wpAny_listSubscript_int (fitsIndex_of h0 hfit) ?_)
  clear hfit
  clear hl
  have q_ := Int.eq_ofNat_of_zero_le h0
  clear h0
  obtain ⟨j, rfl⟩ := q_
  have hj : j < items.size := Int.ofNat_lt.mp hn
  have hx' : items[j]? = some items[j] := Array.getElem?_eq_getElem hj
  show wpAny _ _ ((seqItemAt l j >>= fun r => pure (r.map (j, ·))) >>= _) _ _ s
  refine wpAny_bind (wpAny_bind (wpAny_seqItemAt ho rfl (wpAny_pure ?_)))
  rw [hx']
  show wpAny _ _ (setSeqItemAt l j v >>= _) _ _ s
  refine wpAny_bind (wpAny_setSeqItemAt ho rfl ?_)
  first
    | exact wpAny_bind (wpAny_pure (wpAny_pure ⟨.none, rfl, wpAny_pure hQ⟩))
    | exact wpAny_pure ⟨.none, rfl, wpAny_pure hQ⟩
theorem assign_sub_eq (o i : Expr) (p : Pos) (env : Env) (v : Value) : ∃ l : Value → Value → List Value, assign (.Subscript o i p) env v = (do
    let ov ← holding [v] (eval o env); let iv ← holding [v, ov] (eval i env); standAt p; holding [v, ov, iv] (setItem ov iv v); release (l ov iv) []) :=
  ⟨fun ov iv => match i with | .Slice _ _ none _ => [iv, v, ov] | _ => [v, ov, iv], rfl⟩
set_option tactic.hygienic true in
theorem pm_setItem (G : X.Good) {v iv ov : Value} {m mi mo : MV} {σ' : List MO} {Q : Unit → AS → Prop} (hv : vSetI c.σ mo mi m = some σ') (hq : Q () ⟨c.ρ, σ'⟩) :
    SemP X r env names Xc (fun as h => RepM X as h v m ∧ RepM X as h ov mo ∧ RepM X as h iv mi) RU (setItem ov iv v) c Q := by
  intro A as s K E ac st ⟨hr, ho', hi'⟩ hk hx
  unfold vSetI at hv
  split at hv
  · rename_i j k x
    split at hv
    · rename_i l hj
      split at hv
      · rename_i hkl
        clear hx
        cases hv
        have q_ := st.lst hj ho'
        clear hj ho'
        obtain ⟨a, ws, n, rfl, ha, _, ho, hrl⟩ := q_
        simp only [RepM, RepP] at hi'
        obtain ⟨t, rfl⟩ := hi'
        have el := hrl.len
        simp only [RepM] at hr
        have hlim : (lim : Int) = 1000000 := rfl
        refine setItem_mine ho hkl.1 (Int.lt_of_le_of_lt hkl.2.2 (by decide)) (by rw [List.size_toArray, el]; exact hkl.2.1) ?_
        exact hk () () _ as _ (At.lstUpd (tk := s.toks) (ws' := ws.set k.toNat v) G ac st ha ho hrl (by simp) (hrl.set hr k.toNat)) trivial hq
      · clear G ac hi' hj hk ho' hq hr hx j st x
        cases hv
    · clear G ac hi' hk ho' hq hr hx k st x
      cases hv
  · clear G ac hi' hk ho' hq hr hx st
    cases hv
theorem semS_setI (G : X.Good) {o i e : Expr} {p pos} (hc : isComp e = false) {Q : Fl → AS → Prop} {Q1 : MV → AS → Prop} {Q2 : MV → MV → AS → Prop} {Q3 : MV → MV → MV → AS → Prop}
    (h1 : SemE X r env names Xc (eval e env) c Q1) (h2 : ∀ v c1, Q1 v c1 → SemE X r env names Xc (eval o env) c1 (Q2 v)) (h3 : ∀ v ov c2, Q2 v ov c2 → SemE X r env names Xc (eval i env) c2 (Q3 v ov))
    (h4 : ∀ v ov iv c3, Q3 v ov iv c3 → onP (vSetI c3.σ ov iv v) fun σ' => Q .nxt ⟨c3.ρ, σ'⟩) :
    SemS X r np env names Xc (exec (.Assign [.Subscript o i p] e pos) env) c Q := by
  intro A as s K Ex ac st hn hf hk hx
  refine Assign_one (h1.start (.refl ac st) hn trivial (fun v m c1 as1 s1 n1 z_ r1 q1 => ?_) hx) rfl (swaps_no hc _ _ _) rfl
  clear ac h1 hc hf pos st
  obtain ⟨rl, erl⟩ := assign_sub_eq o i p env v
  rw [erl]
  refine wpAny_bind (wpAny_holding ((h2 m c1 q1).start n1 hn trivial (fun ov mo c2 as2 s2 n2 n2' r2 q2 => ?_) hx))
  refine wpAny_bind (wpAny_holding ((h3 m mo c2 q2).start n2 hn trivial (fun iv mi c3 as3 s3 n3 n3' r3 q3 => ?_) hx))
  clear e erl h2 h3 i o q1 q2
  obtain ⟨σ', hσ, hq⟩ := onP_elim (h4 m mo mi c3 q3)
  refine wpAny_bind (wpAny_standAt (wpAny_bind (wpAny_holding ((pm_setItem (r := r) (Xc := Xc) (env := env) (names := names) G hσ (Q := fun z_ c' => c' = ⟨c3.ρ, σ'⟩) rfl).start n3 hn ⟨n3'.rep n2.cond n2.st (n2'.rep n1.cond n1.st r1), n3'.rep n2.cond n2.st r2, r3⟩ (fun z_ z_ c4 as4 s4 n4 z_ z_ q4 => ?_) hx))))
  clear G Q1 Q2 h4 hn hx hσ n1 n2 n2' n3 n3' p q3 r1 r2 r3 s2 v z_
  subst q4
  exact wpAny_release (hk .next .nxt _ as4 s4 n4 trivial hq)

/-! ### tuples of names -/
noncomputable def nmOf : List Expr → List Str := fun y1_ => match y1_ with
  | [] => []
  | .Name x z1_ :: r => x :: nmOf r
  | z1_ :: r => nmOf r
theorem setAll_len : ∀ (is : List Nat) (ms : List MV) (ρ : List (Option MV)), (setAll ρ is ms).length = ρ.length := fun y1_ y2_ y3_ => match y1_, y2_, y3_ with
  | [], z1_, ρ => by simp [setAll]
  | i :: is, [], ρ => by simp [setAll]
  | i :: is, m :: ms, ρ => by rw [setAll, setAll_len, List.length_set]
theorem setAll_set {i : Nat} {m : MV} : ∀ (is : List Nat) (ms : List MV) (ρ : List (Option MV)), i ∉ is → setAll (ρ.set i (some m)) is ms = (setAll ρ is ms).set i (some m) := fun y1_ y2_ y3_ y4_ => match y1_, y2_, y3_, y4_ with
  | [], z1_, ρ, z2_ => by simp [setAll]
  | j :: is, [], ρ, z1_ => by simp [setAll]
  | j :: is, k :: ms, ρ, h => by
    have hij : i ≠ j := fun e => h (e ▸ .head _)
    rw [setAll, setAll, ← setAll_set is ms _ (fun q => h (.tail _ q)), List.set_comm _ _ hij]
theorem setAll_snoc {i : Nat} {m : MV} : ∀ (is : List Nat) (ms : List MV) (ρ : List (Option MV)), ms.length = is.length → setAll ρ (is ++ [i]) (ms ++ [m]) = (setAll ρ is ms).set i (some m) := fun y1_ y2_ y3_ y4_ => match y1_, y2_, y3_, y4_ with
  | [], [], ρ, z1_ => by simp [setAll]
  | j :: is, [], ρ, h => by simp at h
  | [], z1_ :: z2_, ρ, h => by simp at h
  | j :: is, k :: ms, ρ, h => by
    rw [List.cons_append, List.cons_append, setAll, setAll]
    exact setAll_snoc is ms _ (by simpa using h)
theorem setAll_rev : ∀ (is : List Nat) (ms : List MV) (ρ : List (Option MV)), is.Nodup → ms.length = is.length → setAll ρ is.reverse ms.reverse = setAll ρ is ms := fun y1_ y2_ y3_ y4_ y5_ => match y1_, y2_, y3_, y4_, y5_ with
  | [], [], ρ, z1_, z2_ => rfl
  | j :: is, [], ρ, z1_, h => by simp at h
  | [], z1_ :: z2_, ρ, z3_, h => by simp at h
  | j :: is, k :: ms, ρ, nd, h => by
    clear y3_ y4_ y5_
    obtain ⟨n1, n2⟩ := List.nodup_cons.mp nd
    have h' : ms.length = is.length := by simpa using h
    rw [List.reverse_cons, List.reverse_cons, setAll_snoc _ _ _ (by simpa using h'), setAll_rev is ms ρ n2 h', setAll, setAll_set _ _ _ n1]
set_option tactic.hygienic true in
theorem namesOf_nodup : ∀ {ts : List Expr} {is : List Nat}, namesOf names ts = some is → is.Nodup := @fun y1_ y2_ y3_ => match y1_, y2_, y3_ with
  | [], is, h => by simp [namesOf] at h; subst h; exact List.nodup_nil
  | t :: ts, is, h => by
    cases t <;> try (simp [namesOf] at h; done)
    rename_i x p
    rw [namesOf] at h
    split at h
    · rename_i i l h1 h2
      split at h
      · rename_i h3
        clear h1 p x y3_
        cases h
        simp only [Bool.and_eq_true, Bool.not_eq_true'] at h3
        refine List.nodup_cons.mpr ⟨fun hm => ?_, namesOf_nodup h2⟩
        have := List.elem_eq_true_of_mem hm
        rw [h3.2] at this
        clear h2 h3 hm i l ts y1_ y2_
        cases this
      · clear h1 h2 p ts x y3_
        cases h
    · clear p y3_
      cases h
/-- names and places that belong together -/
noncomputable def NmAt (names : Names) : List Str → List Nat → Prop := fun y1_ y2_ => match y1_, y2_ with
  | [], [] => True
  | x :: xs, i :: is => names[i]? = some (x, .local) ∧ NmAt names xs is
  | z1_, z2_ => False
set_option tactic.hygienic true in
theorem namesOf_nm : ∀ {ts : List Expr} {is : List Nat}, namesOf names ts = some is → NmAt names (nmOf ts) is := @fun y1_ y2_ y3_ => match y1_, y2_, y3_ with
  | [], is, h => by simp [namesOf] at h; subst h; trivial
  | t :: ts, is, h => by
    cases t <;> try (simp [namesOf] at h; done)
    rename_i x p
    rw [namesOf] at h
    split at h
    · rename_i i l h1 h2
      split at h
      · rename_i h3
        clear y3_
        cases h
        simp only [Bool.and_eq_true] at h3
        exact ⟨localAt h1 h3.1, namesOf_nm h2⟩
      · clear h1 h2 y3_
        cases h
    · clear y3_
      cases h
theorem NmAt.append : ∀ {xs ys : List Str} {is js : List Nat}, NmAt names xs is → NmAt names ys js → NmAt names (xs ++ ys) (is ++ js) := @fun y1_ y2_ y3_ y4_ y5_ y6_ => match y1_, y2_, y3_, y4_, y5_, y6_ with
  | [], ys, [], js, z1_, h => h
  | x :: xs, ys, i :: is, js, h, h' => ⟨h.1, NmAt.append h.2 h'⟩
  | [], ys, z1_ :: z2_, js, h, z3_ => h.elim
  | z1_ :: z2_, ys, [], js, h, z3_ => h.elim
theorem NmAt.rev : ∀ {xs : List Str} {is : List Nat}, NmAt names xs is → NmAt names xs.reverse is.reverse := @fun y1_ y2_ y3_ => match y1_, y2_, y3_ with
  | [], [], z1_ => trivial
  | x :: xs, i :: is, h => by
    rw [List.reverse_cons, List.reverse_cons]
    exact NmAt.append (NmAt.rev h.2) ⟨h.1, trivial⟩
  | [], z1_ :: z2_, h => h.elim
  | z1_ :: z2_, [], h => h.elim
theorem repMs_append {h : Heap} : ∀ {vs ws : List Value} {l k : List MV}, RepMs X as h vs l → RepMs X as h ws k → RepMs X as h (vs ++ ws) (l ++ k) := @fun y1_ y2_ y3_ y4_ y5_ y6_ => match y1_, y2_, y3_, y4_, y5_, y6_ with
  | vs, ws, [], k, r, q => by simp only [RepMs] at r; subst r; exact q
  | vs, ws, x :: xs, k, r, q => by
    simp only [RepMs] at r
    clear y5_ y6_
    obtain ⟨v, u, rfl, h1, h2⟩ := r
    simp only [List.cons_append, RepMs]
    exact ⟨v, _, rfl, h1, repMs_append h2 q⟩
theorem repMs_rev {h : Heap} : ∀ {vs : List Value} {l : List MV}, RepMs X as h vs l → RepMs X as h vs.reverse l.reverse := @fun y1_ y2_ y3_ => match y1_, y2_, y3_ with
  | vs, [], r => by simp only [RepMs] at r; subst r; simp [RepMs]
  | vs, x :: xs, r => by
    simp only [RepMs] at r
    clear y3_
    obtain ⟨v, u, rfl, h1, h2⟩ := r
    simp only [List.reverse_cons]
    exact repMs_append (repMs_rev h2) (by simp only [RepMs]; exact ⟨v, [], rfl, h1, rfl⟩)
theorem sem_binds (G : X.Good) (E : EnvOK env names) : ∀ (xs : List Str) {is : List Nat} {vs : List Value} {ms : List MV} {c : AS} {Q : Unit → AS → Prop}, NmAt names xs is → ms.length = is.length → Q () ⟨setAll c.ρ is ms, c.σ⟩ →
    SemP X r env names Xc (fun as h => RepMs X as h vs ms) RU (assignInOrder (xs.map fun n => bindName env n) vs) c Q
  | [], [], vs, ms, c, Q, h, hl, hq => by
    have : ms = [] := List.length_eq_zero_iff.mp hl
    clear E G h hl
    subst this
    intro A as s K Ex ac st hr hk hx
    simp only [RepMs] at hr
    clear hx
    subst hr
    exact wpAny_pure (hk () () c as s (.refl ac st) trivial hq)
  | [], z1_ :: z2_, vs, ms, c, Q, h, hl, hq => h.elim
  | z1_ :: z2_, [], vs, ms, c, Q, h, hl, hq => h.elim
  | x :: xs, i :: is, vs, ms, c, Q, h, hl, hq => by
    cases ms with
    | nil => simp at hl
    | cons m ms =>
      intro A as s K Ex ac st hr hk hx
      simp only [RepMs] at hr
      obtain ⟨v, q, rfl, r1, r2⟩ := hr
      show wpAny _ _ (holding q (bindName env x v) >>= fun z_ => assignInOrder (xs.map fun n => bindName env n) q) _ _ _
      refine wpAny_bind (wpAny_holding (wpAny_bindName ((sem_store (r := r) (Xc := Xc) G E h.1 (c := c) (Q := fun z_ c' => c' = ⟨c.ρ.set i (some m), c.σ⟩) rfl) A as s _ Ex ac st r1 (fun z_ z_ c1 as1 s1 n1 z_ q1 => ?_) hx)))
      clear r1 v
      subst q1
      refine (sem_binds G E xs h.2 (by simpa using hl) (c := ⟨c.ρ.set i (some m), c.σ⟩) (Q := Q) ?_).next st n1 (n1.reps ac st r2) (fun a b c' as' s' n' z_ hr hq => hk a b c' as' s' n' hr hq) hx
      exact hq
end
end Mine
namespace Mine
section
variable {X : Cx} {r np : Nat} {env : Env} {names : Names} {Xc : Prop} {A : Around} {as as' as'' : List Addr} {s s' s'' : Shared} {c c' c'' : AS}
set_option tactic.hygienic true in
theorem nm_len : ∀ {ts : List Expr} {is : List Nat}, namesOf names ts = some is → (nmOf ts).length = ts.length := @fun y1_ y2_ y3_ => match y1_, y2_, y3_ with
  | [], is, h => rfl
  | t :: ts, is, h => by
    cases t <;> try (simp [namesOf] at h; done)
    rename_i x p
    rw [namesOf] at h
    split at h
    · rename_i i l h1 h2
      show (nmOf ts).length + 1 = ts.length + 1
      rw [nm_len h2]
    · clear y3_
      cases h
set_option tactic.hygienic true in
theorem filt_nm {f : Expr → Option Str} (hf : ∀ e y, f e = some y → ∃ p, e = .Name y p) : ∀ {ts : List Expr} {is : List Nat}, namesOf names ts = some is → (ts.filterMap f).length = ts.length → ts.filterMap f = nmOf ts := @fun y1_ y2_ y3_ y4_ => match y1_, y2_, y3_, y4_ with
  | [], is, h, hl => rfl
  | t :: ts, is, h, hl => by
    cases t <;> try (simp [namesOf] at h; done)
    rename_i x p
    rw [namesOf] at h
    split at h
    · rename_i i l h1 h2
      rw [List.filterMap_cons] at hl ⊢
      clear h h1 i is y3_ y4_
      cases hfx : f (.Name x p) with
      | none =>
        rw [hfx] at hl
        exact absurd hl (Nat.ne_of_lt (Nat.lt_succ_of_le (List.length_filterMap_le f ts)))
      | some y =>
        rw [hfx] at hl
        clear y1_ y2_
        obtain ⟨q, e⟩ := hf _ _ hfx
        clear hfx
        cases e
        simp only [List.length_cons, Nat.add_right_cancel_iff] at hl
        show x :: ts.filterMap f = x :: nmOf ts
        rw [filt_nm hf h2 hl]
    · clear hf hl y3_ y4_
      cases h
set_option tactic.hygienic true in
theorem swapped_is {ts : List Expr} {is : List Nat} {k : Nat} {p : Pos} {v : Expr} (h : namesOf names ts = some is) (hv : foldOK v = true) : swappedStores [.Tuple ts k p] v env = pure none ∨ swappedStores [.Tuple ts k p] v env = pure (some (nmOf ts)) := by
  by_cases hT : ∃ vs k' p', v = .Tuple vs k' p'
  · obtain ⟨vs, k', p', rfl⟩ := hT
    simp only [foldOK, Bool.not_eq_true'] at hv
    unfold swappedStores
    dsimp only
    clear k k' p p'
    split
    · exact .inl rfl
    · split
      · exact .inl rfl
      · split
        · exact .inl rfl
        · split
          · exact .inl rfl
          · split
            · rename_i h3 _ h5
              rw [hv] at h5
              clear h h3 hv is
              cases h5
            · rename_i h3 _ _
              refine .inr ?_
              congr 2
              simp only [Bool.or_eq_true, bne_iff_ne, ne_eq, not_or, Classical.not_not] at h3
              exact filt_nm (fun e y he => by
                cases e <;> try (simp at he; done)
                rename_i x q
                simp only at he
                split at he
                · clear h h3 hv is
                  cases he; exact ⟨q, rfl⟩
                · clear hv
                  cases he) h h3.1
  · refine .inl ?_
    cases v <;> first | rfl | exact absurd ⟨_, _, _, rfl⟩ hT
theorem nmAt_len : ∀ {xs : List Str} {is : List Nat}, NmAt names xs is → xs.length = is.length := @fun y1_ y2_ y3_ => match y1_, y2_, y3_ with
  | [], [], z1_ => rfl
  | x :: xs, i :: is, h => by rw [List.length_cons, List.length_cons, nmAt_len h.2]
  | [], z1_ :: z2_, h => h.elim
  | z1_ :: z2_, [], h => h.elim
theorem sole_no {v t : Expr} (h : isComp v = false) (l : Nat) (env : Env) : swapsWithSole [t] v l env = pure false := swaps_no h (some t) l env
theorem semS_asgT (G : X.Good) (E : EnvOK env names) {ts : List Expr} {is : List Nat} {k : Nat} {p pos} {e : Expr} (hc : isComp e = false) (hn' : namesOf names ts = some is) (hv : foldOK e = true) {Q : Fl → AS → Prop}
    (h : SemE X r env names Xc (eval e env) c fun v c₁ => onP (itemsV v) fun l => l.length = is.length ∧ Q .nxt ⟨setAll c₁.ρ is l, c₁.σ⟩) : SemS X r np env names Xc (exec (.Assign [.Tuple ts k p] e pos) env) c Q := by
  intro A as s K Ex ac st hn hf hk hx
  clear hf
  have q_ := swapped_is (env := env) (k := k) (p := p) hn' hv
  clear hv
  rcases q_ with hw | hw
  · refine Assign_Tuple (h.start (.refl ac st) hn trivial (fun v m c1 as1 s1 n1 z_ r1 q1 => ?_) hx) (sole_no hc _ _) hw
    clear ac h hc hw pos st
    obtain ⟨l, hl, hlen, hq⟩ := onP_elim q1
    refine (sem_assignT (r := r) (Xc := Xc) G E hn' hl hlen (c := c1) (Q := fun z_ c' => c' = ⟨setAll c1.ρ is l, c1.σ⟩) rfl).start n1 hn r1 (fun z_ z_ c2 as2 s2 n2 z_ z_ q2 => ?_) hx
    clear E G e hl hlen hn hn' hx k n1 p q1 r1 ts v z_
    subst q2
    exact hk .next .nxt _ as2 s2 n2 trivial hq
  · refine Assign_Tuple_swapped (h.start (.refl ac st) hn trivial (fun v m c1 as1 s1 n1 z_ r1 q1 => ?_) hx) (sole_no hc _ _) hw
    clear h hc hw k p pos st
    obtain ⟨l, hl, hlen, hq⟩ := onP_elim q1
    clear q1
    have q_ := itemsV_is hl r1
    clear hl r1
    obtain ⟨t, vs, n, rfl, ho, hr'⟩ := q_
    have hsz : (nmOf ts).length = vs.toArray.size := by
      rw [nmAt_len (namesOf_nm hn'), List.size_toArray, hr'.len, hlen]
    rw [hsz]
    refine unpackItems_tuple ac.handled (tupO_is ho) fun h' hx' => ?_
    have n2 := (At.grow (tk := s1.toks) (h' := h') n1.cond n1.st fun b o e => hx' b o (Nat.ne_of_lt (Heap.lt_size e)) e)
    have n2S := n1.then (n2.toS (n1.len hn))
    show wpAny _ _ (assignInOrder ((nmOf ts).reverse.map fun n => bindName env n) vs.toArray.toList.reverse) _ _ _
    refine (sem_binds (r := r) (Xc := Xc) G E (nmOf ts).reverse (NmAt.rev (namesOf_nm hn')) (ms := l.reverse) (by rw [List.length_reverse, List.length_reverse]; exact hlen) (c := c1) (Q := fun z_ c' => c' = ⟨setAll c1.ρ is l, c1.σ⟩) (by rw [setAll_rev _ _ _ (namesOf_nodup hn') hlen])).start n2S hn (repMs_rev (n2.reps n1.cond n1.st hr')) (fun z_ z_ c3 as3 s3 n3 z_ z_ q3 => ?_) hx
    clear E G ac e hlen hn hn' ho hr' hsz hx hx' m n n1 n2 n2S t ts vs z_
    subst q3
    exact hk .next .nxt _ as3 s3 n3 trivial hq
end
end Mine
namespace Mine
/-! ## exceptions on their way -/
theorem funFrames_of {h : Heap} : ∀ {l : List Env}, (∀ e ∈ l, FrAt h e) → h.FunFrames {} l := @fun y1_ y2_ => match y1_, y2_ with
  | [], z1_ => trivial
  | e :: l, H => by
    clear y2_
    obtain ⟨h1, L, o, h2, h3, es, n, h4⟩ := H e (.head _)
    exact ⟨h1, ⟨L, o, h2, by unfold Heap.get?; simp, h3, fun vs q => by rw [h4] at q; cases q⟩, funFrames_of fun e he => H e (.tail _ he)⟩
/-- behind a new entry of the traceback -/
structure EntryPost (h h' : Heap) (F : List Addr) (e : Addr) (oe : Obj) (L T : Addr) : Prop where
  new : h.get? T = none
  ne : T ≠ e
  exc : h'.get? e = some (Obj.mapFields (·.setIfInBounds 1 (.ref T)) oe)
  tb : ∃ oT ts, h'.get? T = some oT ∧ oT.data = .fields ts ∧ ts[1]? = some (.ref L) ∧ ts[3]? = some (rawInt L)
  keep : ∀ b o, b ≠ e → h.get? b = some o → ∃ sl, h'.get? b = some { o with slots := sl } ∧ (b ∉ F → sl = o.slots)
  there : ∀ b, h'.get? b = none → h.get? b = none
theorem entry {M : Model} {A : Around} {E : Value → Shared → Prop} {s : Shared} {env : Env} {outer : List Env} {L e : Addr} {oe : Obj} {vs : Array Value} {head : Value} {hadNext : Bool} {Q : Unit → Shared → Prop}
    (hfr : A.frames = some (env :: outer)) (hl : ∀ ev ∈ env :: outer, FrAt s.heap ev) (hf : env.frame = some L)
    (he : s.heap.get? e = some oe) (hd : oe.data = .fields vs) (hsz : 1 < vs.size)
    (h : ∀ h' T, EntryPost s.heap h' ((env :: outer).filterMap (·.frame)) e oe L T → Q () { s with heap := h' }) :
    wpAny M A (do let a ← frameOf env; let pl ← entryPlaceOf L hadNext; let b ← EntryCells.newEntry head a .none (rawInt L) .none pl; setField (.ref e) 1 b) Q E s := by
  have hl' := funFrames_of hl
  have hene : e ∉ (env :: outer).filterMap (·.frame) := fun hm => by
    clear E M h hadNext head hf hfr hl hsz
    obtain ⟨_, o, ho, hnf⟩ := hl'.mem hm
    rw [he] at ho; injection ho with ho; subst ho; exact hnf vs hd
  refine wpAny_bind (wpAny_frameOf_fun hfr hl' hf fun h₁ hs₁ => ?_)
  refine wpAny_bind (wpAny_entryPlaceOf fun pl hpl => ?_)
  unfold EntryCells.newEntry newFields
  refine wpAny_bind (wpAny_newObj_type ?_ (hpl.sizeOk5 _ _ _ _ _))
  have he₁ : h₁.get? e = some oe := (hs₁.2.1 e hene).trans he
  generalize hob : ({ cls := .type "traceback", dict := none, data := .fields ([head, .ref L, .none, rawInt L, .none] ++ (if pl.isEmpty then List.replicate 6 Value.none else pl)).toArray } : Obj) = ob
  have he₂ := Heap.get?_push_of_some (h := h₁) ob he₁
  refine wpAny_setField he₂ hd hsz ?_
  have hTe : h₁.objs.size ≠ e := Nat.ne_of_gt (Heap.lt_size he₁)
  have hd₃ := Obj.data_mapFields hd (·.setIfInBounds 1 (Value.ref h₁.objs.size))
  have he₃ := Heap.get?_update_self (Obj.mapFields (·.setIfInBounds 1 (Value.ref h₁.objs.size))) he₂ (Obj.isFreed_of_fields hd₃)
  have hobf : ob.isFreed = false := by rw [← hob]; rfl
  have hT₃ := (Heap.get?_update_other (h₁.push ob) (Obj.mapFields (·.setIfInBounds 1 (Value.ref h₁.objs.size))) (Ne.symm hTe)).trans (Heap.get?_push_size h₁ hobf)
  have sz1 : h₁.objs.size = s.heap.objs.size := hs₁.1
  refine h _ h₁.objs.size ⟨?_, hTe, he₃, ⟨ob, ([head, .ref L, .none, rawInt L, .none] ++ (if pl.isEmpty then List.replicate 6 Value.none else pl)).toArray, hT₃, by rw [← hob], by first | (simp; done) | (rcases hpl with rfl | ⟨_, _, _, _, _, _, _, rfl⟩ <;> simp), by first | (simp; done) | (rcases hpl with rfl | ⟨_, _, _, _, _, _, _, rfl⟩ <;> simp)⟩, fun b o hbe hb => ?_, fun b hb => ?_⟩
  · clear E M h hTe hT₃ hadNext hd hd₃ he hene he₁ he₂ he₃ hf hfr hl hl' hob hobf hpl hsz hs₁ ob oe outer pl vs
    cases q : s.heap.get? h₁.objs.size with
    | none => rfl
    | some o => exact absurd (Heap.lt_size q) (by rw [sz1]; exact Nat.lt_irrefl _)
  · clear E M h hTe hT₃ hadNext hd hd₃ he hene he₁ he₂ he₃ hf hfr hl hl' hob hobf hpl hsz oe pl sz1 vs
    obtain ⟨sl, hsl⟩ := hs₁.2.2 b o hb
    refine ⟨sl, ?_, fun hF => ?_⟩
    · rw [Heap.get?_update_other _ _ (Ne.symm hbe)]
      exact Heap.get?_push_of_some _ hsl
    · have := hs₁.2.1 b hF
      rw [hsl, hb] at this
      clear A L Q hF hb hbe head hsl hs₁ h₁ ob outer s
      injection this with this
      have := congrArg Obj.slots this
      exact this
  · clear E M h hTe hT₃ hadNext hd hd₃ he hene he₁ he₂ hf hfr hl hl' hob hobf hpl hsz pl sz1 vs
    cases q : s.heap.get? b with
    | none => rfl
    | some o =>
      clear A L Q head
      obtain ⟨sl, hsl⟩ := hs₁.2.2 b o q
      by_cases hbe : b = e
      · clear hsl hs₁ outer q sl
        subst hbe
        rw [he₃] at hb; cases hb
      · rw [Heap.get?_update_other _ _ (Ne.symm hbe), Heap.get?_push_of_some _ hsl] at hb
        clear hbe he₃ hsl hs₁ h₁ ob oe outer q s
        cases hb
end Mine
namespace Mine
section
variable {X : Cx} {r np : Nat} {env : Env} {names : Names} {Xc : Prop} {A : Around} {as : List Addr} {s s1 : Shared} {c : AS} {e : Addr}
theorem FrTop.mem (hf : FrTop A env) : env.locals ∈ frAddrs A := by
  obtain ⟨h1, outer, h2⟩ := hf
  unfold frAddrs
  rw [h2]
  exact List.mem_filterMap.mpr ⟨env, .head _, h1⟩
theorem ThrownAt.frames (G : X.Good) (ac : ACond X A r as s.heap) (st : St X env names c as s.heap) (t : ThrownAt X env A as s e s1) {l : List Env} (hl : A.frames = some l) : ∀ ev ∈ l, FrAt s1.heap ev := fun ev he => by
  clear st
  obtain ⟨l', hl', hff⟩ := ac.frames
  rw [hl] at hl'
  cases hl'
  obtain ⟨h1, L, o, h2, h3, h4⟩ := hff ev he
  have hm : L ∈ frAddrs A := by
    unfold frAddrs
    rw [hl]
    exact List.mem_filterMap.mpr ⟨ev, he, h2⟩
  by_cases hL : L = env.locals
  · clear G ac h3 h4 he hff hl hm l o
    subst hL
    obtain ⟨m, o', es, n, e', hd, _⟩ := t.fr
    exact ⟨h1, _, o', h2, e', es, n, hd⟩
  · clear he hff hl l
    obtain ⟨sl, e', _⟩ := t.kp L o h3 (fun q => (List.mem_cons.mp q).elim hL (ac.off L hm)) (high_ne G (ac.high L hm))
    clear G ac h3 hL hm t
    obtain ⟨es, n, h4⟩ := h4
    exact ⟨h1, L, _, h2, e', es, n, h4⟩
/-- the exception's traceback ends here, with a frame or with none -/
noncomputable def TbHas (h : Heap) (e : Addr) (v : Value) : Prop := ∃ oe vs T oT ts, h.get? e = some oe ∧ oe.data = .fields vs ∧ vs[1]? = some (.ref T) ∧ T ≠ e ∧ h.get? T = some oT ∧ oT.data = .fields ts ∧ (∃ f : Addr, ts[1]? = some (.ref f)) ∧ ts[3]? = some v
theorem excObj_notImm {h : Heap} {fr : Option Addr} (x : ExcIn h e fr) {o : Obj} (ho : h.get? e = some o) : ¬ Imm o ∧ ¬ FrObj o := by
  obtain ⟨oe, vs, h1, h2, h3, h4, h5⟩ := x
  rw [← Option.some.inj (h1.symm.trans ho)]
  refine ⟨?_, nFr_fields h3⟩
  clear h1 h2 h4 ho o
  rcases h5 with h5 | ⟨T, oT, ts, h5, _⟩
  · exact nImm_fields h3 h5 fun _ _ => nofun
  · exact nImm_fields h3 h5 fun _ _ => nofun
/-- e's own entry and objects that nobody knew: what stays -/
theorem ThrownAt.change (G : X.Good) (ac : ACond X A r as s.heap) (st : St X env names c as s.heap) (hf : FrTop A env) (t : ThrownAt X env A as s e s1) {h' : Heap} {w : Addr} (hw : s.heap.get? w = none) (hwI : ∀ o, s1.heap.get? w = some o → ¬ Imm o ∧ ¬ FrObj o)
    (k : ∀ b o, b ≠ w → s1.heap.get? b = some o → ∃ sl, h'.get? b = some { o with slots := sl } ∧ (b ∉ frAddrs A → sl = o.slots)) (hth : ∀ b, h'.get? b = none → s1.heap.get? b = none)
    {fr : Option Addr} (hx : ExcIn h' e fr) (hfr : fr = none ∨ fr = env.frame) (hT : ∀ T, TbOf h' e T → s.heap.get? T = none) : ThrownAt X env A as s e { s1 with heap := h' } := by
  have exact : ∀ b o, b ≠ w → b ∉ frAddrs A → s1.heap.get? b = some o → h'.get? b = some o := fun b o hb hF e => by
    clear G ac hT hf hfr hth hw hwI hx st t
    obtain ⟨sl, e', q⟩ := k b o hb e
    rw [q hF] at e'
    exact e'
  have lowF : ∀ b, b < X.g1.objs.size → b ∉ frAddrs A := fun b hb hm => absurd hb (Nat.not_lt.mpr (ac.high b hm))
  have g1s : ∀ b o, X.g1.get? b = some o → b ≠ w := fun b o e q => by
    have := st.base.1 b o e
    rw [q, hw] at this
    clear G ac e hT hf hfr hth hw hwI hx k lowF q st t
    cases this
  have hptw : PT ≠ w := fun q => by
    clear G ac g1s hT hf hfr hth hwI hx k lowF t
    obtain ⟨ps, e, _⟩ := st.base.2
    rw [q, hw] at e
    clear fr hw q st
    cases e
  have frImm : ∀ b ∈ frAddrs A, ∀ o, s1.heap.get? b = some o → ¬ Imm o := fun b hb o e i => by
    clear g1s hT hf hfr hptw hth hw hwI hx k lowF
    obtain ⟨l, hl, _⟩ := ac.frames
    have hff := t.frames G ac st hl
    unfold frAddrs at hb
    rw [hl] at hb
    clear G ac fr hl st t
    obtain ⟨ev, hev, hL⟩ := List.mem_filterMap.mp hb
    clear hb
    obtain ⟨_, L, o', h2, h3, h4⟩ := hff ev hev
    rw [hL] at h2
    clear hL hev hff
    cases h2
    rw [e] at h3
    clear e
    cases h3
    exact frObj_notImm h4 i
  have tk : TKeep s1.heap h' := fun b o e i => exact b o (fun q => by subst q; exact (hwI o e).1 i) (fun hm => frImm b hm o e i) e
  refine ⟨⟨fun b o e => exact b o (g1s b o e) (lowF b (Heap.lt_size e)) (t.base.1 b o e), t.base.2.of (by obtain ⟨ps, e, _⟩ := t.base.2; rw [e]; exact exact _ _ hptw (lowF _ G.pt) e) tk⟩, fun b o e nb np => ?_, ?_, ?_, t.new, hT, fun b hb => t.there b (hth b hb), ?_⟩
  · clear G ac frImm g1s hT hf hfr hptw hth hwI hx lowF st tk
    obtain ⟨sl, e', q⟩ := t.kp b o e nb np
    clear fr nb np t
    obtain ⟨sl', e'', q'⟩ := k b _ (fun q => by rw [q, hw] at e; cases e) e'
    exact ⟨sl', e'', fun hF => (q' hF).trans (q hF)⟩
  · clear G ac frImm g1s hT hf hfr hptw hth hwI hx lowF tk
    obtain ⟨m, hn⟩ := t.fr
    refine ⟨m, ns_slots hn fun o e => ?_⟩
    obtain ⟨sl, e', _⟩ := k env.locals o (fun q => by
      clear fr hn k m t
      obtain ⟨m₀, F₀⟩ := st.frame
      clear st
      obtain ⟨o', e', _⟩ := F₀.obj
      rw [q, hw] at e'
      clear F₀ hw m₀ q
      cases e') e
    exact ⟨sl, e'⟩
  · clear G ac frImm g1s hT hf hptw hth hw hwI k lowF st t tk
    rcases hfr with rfl | rfl
    · obtain ⟨oe, vs, h1, h2, h3, h4, h5⟩ := hx
      refine ⟨oe, vs, h1, h2, h3, h4, ?_⟩
      clear h1 h2 h3 h4 oe
      rcases h5 with h5 | ⟨T, oT, ts, w1, w2, w3, w4, wf, w5 | ⟨f, w5, _⟩⟩
      · exact .inl h5
      · exact .inr ⟨T, oT, ts, w1, w2, w3, w4, wf, .inl w5⟩
      · clear w1 w2 w3 w4 wf
        cases w5
    · exact hx
  · clear G ac frImm g1s hT hf hfr hptw hth hw hwI hx k lowF st tk
    have q_ := t.same
    clear fr t
    obtain ⟨h, tk', rfl⟩ := q_
    exact ⟨h', tk', rfl⟩
/-- a new entry -/
theorem ThrownAt.entry (G : X.Good) (ac : ACond X A r as s.heap) (st : St X env names c as s.heap) (hf : FrTop A env) (t : ThrownAt X env A as s e s1) {oe : Obj} {vs : Array Value} (he : s1.heap.get? e = some oe) (hd : oe.data = .fields vs) {h' : Heap} {T : Addr} (p : EntryPost s1.heap h' (frAddrs A) e oe env.locals T) :
    ThrownAt X env A as s e { s1 with heap := h' } ∧ TbHas h' e (rawInt env.locals) := by
  obtain ⟨oe', vs', h1, h2, h3, h4, h5⟩ := t.exc
  rw [he] at h1
  clear h5 he
  cases h1
  rw [hd] at h3
  cases h3
  obtain ⟨oT, ts, w1, w2, wf, w3⟩ := p.tb
  have hd' := Obj.data_mapFields hd (·.setIfInBounds 1 (Value.ref T))
  have hv1 : (vs.setIfInBounds 1 (Value.ref T))[1]? = some (.ref T) := by simp [show 1 < vs.size by omega]
  have hx : ExcIn h' e env.frame := ⟨_, _, p.exc, by rw [Obj.cls_mapFields]; exact h2, hd', by simpa using h4, .inr ⟨T, oT, ts, hv1, p.ne, w1, w2, ⟨_, wf⟩, .inr ⟨env.locals, hf.1, w3⟩⟩⟩
  refine ⟨t.change G ac st hf t.new (fun o ho => excObj_notImm t.exc ho) p.keep p.there hx (.inr rfl) fun T' ⟨o1, v1, q1, q2, q3⟩ => ?_, ⟨_, _, T, oT, ts, p.exc, hd', hv1, p.ne, w1, w2, ⟨_, wf⟩, w3⟩⟩
  rw [p.exc] at q1
  clear G ac h2 h4 hd hf hx st w1 w2 w3 wf
  cases q1
  rw [hd'] at q2
  clear hd' oT ts
  cases q2
  rw [hv1] at q3
  clear hv1 vs
  cases q3
  exact t.there _ p.new
/-- the traceback's own mark is set -/
theorem ThrownAt.mark (G : X.Good) (ac : ACond X A r as s.heap) (st : St X env names c as s.heap) (hf : FrTop A env) (t : ThrownAt X env A as s e s1) {oe oT : Obj} {vs ts : Array Value} {T : Addr} (he : s1.heap.get? e = some oe) (hd : oe.data = .fields vs) (hv : vs[1]? = some (.ref T)) (hne : T ≠ e) (hT : s1.heap.get? T = some oT) (hdT : oT.data = .fields ts) (hw : ∃ f : Addr, ts[1]? = some (.ref f))
    {v v0 : Value} (h3 : ts[3]? = some v0) (hv' : v = .none ∨ v = rawInt env.locals) :
    ThrownAt X env A as s e { s1 with heap := s1.heap.update T (Obj.mapFields (·.setIfInBounds 3 v)) } ∧ TbHas (s1.heap.update T (Obj.mapFields (·.setIfInBounds 3 v))) e v ∧ (v = .none → ExcIn (s1.heap.update T (Obj.mapFields (·.setIfInBounds 3 v))) e none) := by
  obtain ⟨oe', vs', h1, h2, h3', h4, h5⟩ := t.exc
  rw [he] at h1
  clear h5
  cases h1
  rw [hd] at h3'
  cases h3'
  have hTn : s.heap.get? T = none := t.newT T ⟨oe, vs, he, hd, hv⟩
  have hdT' := Obj.data_mapFields hdT (·.setIfInBounds 3 v)
  have hT' := Heap.get?_update_self (Obj.mapFields (·.setIfInBounds 3 v)) hT (Obj.isFreed_of_fields hdT')
  have he' : (s1.heap.update T (Obj.mapFields (·.setIfInBounds 3 v))).get? e = some oe := (Heap.get?_update_other _ _ hne).trans he
  have hlen : 3 < ts.size := (Array.getElem?_eq_some_iff.mp h3).1
  have h3v : (ts.setIfInBounds 3 v)[3]? = some v := by simp [hlen]
  have hw' : ∃ f : Addr, (ts.setIfInBounds 3 v)[1]? = some (.ref f) := by
    clear G ac h2 h3 h3v h4 hT hT' hTn hd hdT hdT' he he' hf hlen hne hv hv' oT oe st t v0 vs
    obtain ⟨f, hf'⟩ := hw
    exact ⟨f, by rw [Array.getElem?_setIfInBounds_ne (by omega)]; exact hf'⟩
  have hx : ExcIn (s1.heap.update T (Obj.mapFields (·.setIfInBounds 3 v))) e env.frame := ⟨oe, vs, he', h2, hd, h4, .inr ⟨T, _, _, hv, hne, hT', hdT', hw', by
    clear G ac h2 h3 h4 hT hT' hTn hd hdT hdT' he he' hlen hne hv hw hw' oT oe st t v0 vs
    rcases hv' with rfl | rfl
    · exact .inl h3v
    · exact .inr ⟨env.locals, hf.1, h3v⟩⟩⟩
  have tI : ∀ o, s1.heap.get? T = some o → ¬ Imm o ∧ ¬ FrObj o := fun o ho => by
    rw [hT] at ho
    clear G ac h2 h3 h3v h4 hT hT' hTn hd hdT' he he' hf hlen hne hv hv' hw' hx oe st t v v0 vs
    cases ho
    clear T
    obtain ⟨f, hf'⟩ := hw
    exact ⟨nImm_fields hdT hf' fun _ _ => nofun, nFr_fields hdT⟩
  refine ⟨t.change G ac st hf hTn tI (fun b o hb e => ⟨o.slots, (Heap.get?_update_other _ _ (Ne.symm hb)).trans e, fun z_ => rfl⟩) (fun b hb => ?_) hx (.inr rfl) fun T' ⟨o1, v1, q1, q2, q3⟩ => ?_, ⟨oe, vs, T, _, _, he', hd, hv, hne, hT', hdT', hw', h3v⟩, fun e0 => ⟨oe, vs, he', h2, hd, h4, .inr ⟨T, _, _, hv, hne, hT', hdT', hw', .inl (by rw [h3v, e0])⟩⟩⟩
  · by_cases q : b = T
    · clear G ac h2 h3 h3v h4 hT hTn hd hdT hdT' he he' hf hlen hne hv hv' hw hw' hx oe st t tI ts v0 vs
      subst q; rw [hT'] at hb; cases hb
    · rwa [Heap.get?_update_other _ _ (Ne.symm q)] at hb
  · rw [he'] at q1
    clear G ac h2 h3 h3v h4 hT hT' hdT hdT' he he' hf hlen hne hv' hw hw' hx oT st t tI ts v0
    cases q1
    rw [hd] at q2
    clear hd oe
    cases q2
    rw [hv] at q3
    clear hv vs
    cases q3
    exact hTn
end
end Mine
namespace Mine
section
variable {X : Cx} {r np : Nat} {env : Env} {names : Names} {Xc : Prop} {A : Around} {as : List Addr} {s s1 : Shared} {c : AS} {e : Addr}
theorem noted (G : X.Good) (ac : ACond X A r as s.heap) (st : St X env names c as s.heap) (hf : FrTop A env) (t : ThrownAt X env A as s e s1) {Q : Unit → Shared → Prop} {E : Value → Shared → Prop}
    (h : ∀ s2, ThrownAt X env A as s e s2 → TbHas s2.heap e (rawInt env.locals) → Q () s2) : wpAny (model X.prog X.w) A (noteFrame (.ref e) env) Q E s1 := by
  obtain ⟨hfr, outer, hA⟩ := id hf
  have hF : frAddrs A = (env :: outer).filterMap (·.frame) := by unfold frAddrs; rw [hA]
  obtain ⟨oe, vs, h1, h2, h3, h4, h5⟩ := t.exc
  unfold noteFrame
  simp only [hfr]
  rcases h5 with h5 | ⟨T, oT, ts, w1, w2, w3, w4, wf, w5⟩
  · refine wpAny_bind (wpAny_field h1 h3 h5 ?_)
    rw [if_neg (by decide)]
    refine entry hA (t.frames G ac st hA) hfr h1 h3 (by omega) fun h' T p => ?_
    rw [← hF] at p
    clear E h2 h4 h5 hA hF hfr outer
    obtain ⟨t', tb⟩ := t.entry G ac st hf h1 h3 p
    exact h _ t' tb
  · refine wpAny_bind (wpAny_field h1 h3 w1 ?_)
    rw [if_pos (show (Value.ref T != Value.none) = true from by simp)]
    rcases w5 with w5 | ⟨f, w5, w6⟩
    · refine wpAny_bind (wpAny_field w3 w4 w5 ?_)
      rw [if_neg (show ¬ ((Value.none == rawInt env.locals) = true) from by simp [rawInt])]
      refine wpAny_bind (wpAny_setField w3 w4 (Array.getElem?_eq_some_iff.mp w5).1 ?_)
      obtain ⟨t', _, _⟩ := t.mark G ac st hf h1 h3 w1 w2 w3 w4 wf w5 (v := .none) (.inl rfl)
      have he' : (s1.heap.update T (Obj.mapFields (·.setIfInBounds 3 Value.none))).get? e = some oe := (Heap.get?_update_other _ _ w2).trans h1
      refine entry (s := { s1 with heap := s1.heap.update T (Obj.mapFields (·.setIfInBounds 3 Value.none)) }) hA (t'.frames G ac st hA) hfr he' h3 (by omega) fun h' T' p => ?_
      rw [← hF] at p
      clear E h1 h2 h4 hA hF hfr outer t w1 w2 w3 w4 w5 wf
      obtain ⟨t'', tb⟩ := t'.entry G ac st hf he' h3 p
      exact h _ t'' tb
    · rw [hfr] at w5
      clear G ac h2 h4 hA hF hf hfr outer st
      cases w5
      refine wpAny_bind (wpAny_field w3 w4 w6 ?_)
      rw [if_pos (by simp)]
      exact wpAny_pure (h _ t ⟨oe, vs, T, oT, ts, h1, h3, w1, w2, w3, w4, wf, w6⟩)
theorem flight (G : X.Good) (ac : ACond X A r as s.heap) (st : St X env names c as s.heap) (hf : FrTop A env) (t : ThrownAt X env A as s e s1) {v0 : Value} (tb : TbHas s1.heap e v0) {fr : Option Addr} (hfr : fr = none ∨ fr = some env.locals) {Q : Unit → Shared → Prop} {E : Value → Shared → Prop} {M : Model} {A' : Around}
    (h : ∀ s2, ThrownAt X env A as s e s2 → (fr = none → ExcIn s2.heap e none) → Q () s2) : wpAny M A' (setFlight (.ref e) fr) Q E s1 := by
  obtain ⟨oe, vs, T, oT, ts, h1, h3, w1, w2, w3, w4, wf, w5⟩ := tb
  unfold setFlight
  refine wpAny_bind (wpAny_field h1 h3 w1 ?_)
  rw [if_pos (show (Value.ref T != Value.none) = true from by simp)]
  refine wpAny_setField w3 w4 (Array.getElem?_eq_some_iff.mp w5).1 ?_
  clear A' E M
  obtain ⟨t', _, h0⟩ := t.mark G ac st hf h1 h3 w1 w2 w3 w4 wf w5 (v := fr.elim .none fun f => rawInt f) (by rcases hfr with rfl | rfl; exact .inl rfl; exact .inr rfl)
  exact h _ t' fun e0 => h0 (by rw [e0]; rfl)
/-- through a loop of its own -/
theorem passed (G : X.Good) (ac : ACond X A r as s.heap) (st : St X env names c as s.heap) (hf : FrTop A env) (t : ThrownAt X env A as s e s1) {E : Value → Shared → Prop} (h : ∀ s2, ThrownAt X env A as s e s2 → E (.ref e) s2) :
    notedBy (model X.prog X.w) A env (cameBackBy (model X.prog X.w) A env E) (.ref e) s1 := by
  refine noted G ac st hf t fun s2 t2 tb => ?_
  clear t
  obtain ⟨oe, vs, T, oT, ts, h1, h3, w1, w2, w3, w4, wf, w5⟩ := id tb
  unfold cameBackBy
  refine wpAny_bind (wpAny_field h1 h3 w1 ?_)
  rw [if_neg (show ¬ ((Value.ref T == Value.none) = true) from by simp)]
  rw [hf.1]
  exact flight G ac st hf t2 tb (.inr rfl) fun s3 t3 z_ => h s3 t3
/-- out of the function -/
theorem leaves (G : X.Good) (ac : ACond X A r as s.heap) (st : St X env names c as s.heap) (hf : FrTop A env) (t : ThrownAt X env A as s e s1) {Q : Unit → Shared → Prop} {E : Value → Shared → Prop} (h : ∀ s2, ThrownAt X env A as s e s2 → ExcIn s2.heap e none → Q () s2) :
    wpAny (model X.prog X.w) A (leaving env (.ref e)) Q E s1 := by
  unfold leaving
  exact wpAny_bind (noted G ac st hf t fun s2 t2 tb => flight G ac st hf t2 tb (.inl rfl) fun s3 t3 h0 => h s3 t3 (h0 rfl))
end
end Mine
namespace Mine
/-! ## loops -/
theorem keepR_get : ∀ {keep : List Nat} {d : Nat} {ρ : List (Option MV)} {i : Nat} {mv : MV}, (keepR keep d ρ)[i]? = some (some mv) → ρ[i]? = some (some mv) := @fun y1_ y2_ y3_ y4_ y5_ y6_ => match y1_, y2_, y3_, y4_, y5_, y6_ with
  | keep, d, [], i, mv, h => by simp [keepR] at h
  | keep, d, v :: r, i, mv, h => by
    clear y6_
    cases i with
    | zero =>
      simp only [keepR, List.getElem?_cons_zero, Option.some.injEq] at h ⊢
      split at h
      · exact h
      · clear r y1_ y2_ y3_ y4_ y5_
        cases h
    | succ n =>
      simp only [keepR, List.getElem?_cons_succ] at h ⊢
      exact keepR_get h
theorem keepR_len : ∀ (keep : List Nat) (d : Nat) (ρ : List (Option MV)), (keepR keep d ρ).length = ρ.length := fun y1_ y2_ y3_ => match y1_, y2_, y3_ with
  | keep, d, [] => rfl
  | keep, d, v :: r => by simp only [keepR, List.length_cons, keepR_len keep (d + 1) r]
theorem renR_len (f : Nat → Nat) : ∀ (ρ : List (Option MV)), (renR f ρ).length = ρ.length := fun y1_ => match y1_ with
  | [] => rfl
  | some v :: r => by simp only [renR, List.length_cons, renR_len f r]
  | none :: r => by simp only [renR, List.length_cons, renR_len f r]
theorem renR_get {f : Nat → Nat} : ∀ {ρ : List (Option MV)} {i : Nat} {mv : MV}, (renR f ρ)[i]? = some (some mv) → ∃ mv0, ρ[i]? = some (some mv0) ∧ mv = renV f mv0 ∧ ∀ j ∈ refsV mv0, j ∈ refsR ρ := @fun y1_ y2_ y3_ y4_ => match y1_, y2_, y3_, y4_ with
  | [], i, mv, h => by simp [renR] at h
  | some v :: r, 0, mv, h => by
    simp only [renR, List.getElem?_cons_zero, Option.some.injEq] at h
    exact ⟨v, rfl, h.symm, fun j hj => by simp only [refsR, List.mem_append]; exact .inl hj⟩
  | none :: r, 0, mv, h => by simp [renR] at h
  | some v :: r, i + 1, mv, h => by
    simp only [renR, List.getElem?_cons_succ] at h
    clear y4_
    obtain ⟨mv0, h1, h2, h3⟩ := renR_get h
    exact ⟨mv0, by simpa using h1, h2, fun j hj => by simp only [refsR, List.mem_append]; exact .inr (h3 j hj)⟩
  | none :: r, i + 1, mv, h => by
    simp only [renR, List.getElem?_cons_succ] at h
    clear y4_
    obtain ⟨mv0, h1, h2, h3⟩ := renR_get h
    exact ⟨mv0, by simpa using h1, h2, fun j hj => by simp only [refsR]; exact h3 j hj⟩
section
variable {X : Cx} {r np : Nat} {env : Env} {names : Names} {Xc : Prop} {A : Around} {as as' : List Addr} {s s' : Shared} {c c' : AS} {e : Addr}
theorem norm_ok {keep : List Nat} {vs ws : List MV} {q : AS} {hp : Heap} (h : norm np keep vs c = some (q, ws)) (st : St X env names c as hp) :
    ∃ as0, St X env names q as0 hp ∧ (∀ a ∈ as0, a ∈ as) ∧ (np ≤ as.length → as0.take np = as.take np) ∧ ∀ us, RepMs X as hp us vs → RepMs X as0 hp us ws := by
  unfold norm at h
  dsimp only at h
  generalize reach c.σ (addNew (List.range np) (refsVs vs ++ refsR (keepR keep 0 c.ρ))) = sel at h
  split at h
  · rename_i hok
    cases h
    simp only [Bool.and_eq_true, decide_eq_true_eq] at hok
    obtain ⟨⟨⟨ok, hall⟩, htake⟩, hnp⟩ := hok
    have S := st.store
    have hlt := selOk_lt ok
    have hlt' : ∀ i ∈ sel, i < as.length := fun i hi => by rw [S.1]; exact hlt i hi
    have hmem : ∀ b ∈ subAs as sel, b ∈ as := fun b hb => subAs_mem hb hlt'
    have hrefs : ∀ j ∈ refsVs vs ++ refsR (keepR keep 0 c.ρ), sel.elem j = true := fun j hj => List.all_eq_true.mp hall j hj
    clear hall hlt hlt' hnp
    obtain ⟨m, F⟩ := st.frame
    refine ⟨subAs as sel, ⟨st.base, ⟨m, ⟨F.ns, F.high, fun hm => F.off (hmem _ hm), by rw [renR_len, keepR_len]; exact F.len, fun i mv x kd e1 e2 => ?_⟩⟩, sub_store S ok⟩, hmem, fun hn => ?_, fun us hr => hr.ren (sub_ren fun j hj => hrefs j (List.mem_append_left _ hj))⟩
    · clear S hmem htake ok st
      have q_ := renR_get e1
      clear e1
      obtain ⟨mv0, h1, rfl, h3⟩ := q_
      have hv := F.var i mv0 x kd (keepR_get h1) e2
      have hr : ∀ j ∈ refsV mv0, ∀ a, as[j]? = some a → (subAs as sel)[posIn sel j]? = some a := sub_ren fun j hj => hrefs j (List.mem_append_right _ (h3 j hj))
      clear F e2 h1 h3 hrefs i keep vs
      cases kd with
      | «local» => obtain ⟨v, q1, q2⟩ := hv; exact ⟨v, q1, q2.ren hr⟩
      | cell => obtain ⟨a, v, q1, q2, q3⟩ := hv; exact ⟨a, v, q1, q2, q3.ren hr⟩
      | free => exact hv
      | globalExplicit => exact hv
      | globalImplicit => exact hv
    · unfold subAs
      rw [← List.map_take, htake]
      apply List.ext_getElem?
      intro i
      rw [List.getElem?_map]
      by_cases hi : i < np
      · rw [List.getElem?_range hi, Option.map_some, List.getElem?_take_of_lt hi, List.getD_eq_getElem?_getD, List.getElem?_eq_getElem (Nat.lt_of_lt_of_le hi hn)]
        rfl
      · rw [List.getElem?_eq_none (by rw [List.length_range]; exact Nat.not_lt.mp hi), List.getElem?_eq_none (by rw [List.length_take]; exact Nat.le_trans (Nat.min_le_left _ _) (Nat.not_lt.mp hi))]
        rfl
  · clear st
    cases h
theorem AtS.norm (n : AtS X r np env names A as s c' as' s') (hn : np ≤ as.length) {keep : List Nat} {q : AS} {ws : List MV} (h : norm np keep [] c' = some (q, ws)) : ∃ as0, AtS X r np env names A as s q as0 s' := by
  obtain ⟨as0, h1, h2, h3, _⟩ := norm_ok h n.st
  exact ⟨as0, ⟨n.cond.handled, n.cond.depth, n.cond.units, n.cond.frames, fun b hb hm => n.cond.off b hb (h2 b hm), n.cond.high⟩, h1, n.kp, fun x hx => n.own x (h2 x hx), (h3 (n.len hn)).trans n.pre, n.there, n.same⟩
theorem thenW_case {as : List Addr} {h : Heap} {f : Flow} {fl : Fl} {k : AS → Prop} {Q : Fl → AS → Prop} (hr : RF X as h f fl) (hq : thenW k Q fl c) : ((f = .next ∨ f = .cont) ∧ k c) ∨ (∃ v m, f = .ret v ∧ fl = .ret m ∧ RepM X as h v m ∧ Q (.ret m) c) := by
  cases f with
  | next =>
    cases fl with
    | nxt => exact .inl ⟨.inl rfl, hq⟩
    | cnt => exact hr.elim
    | ret v => exact hr.elim
  | cont =>
    cases fl with
    | cnt => exact .inl ⟨.inr rfl, hq⟩
    | nxt => exact hr.elim
    | ret v => exact hr.elim
  | brk => cases fl <;> exact hr.elim
  | ret v =>
    cases fl with
    | ret m => exact .inr ⟨v, m, rfl, rfl, hr, hq⟩
    | nxt => exact hr.elim
    | cnt => exact hr.elim
theorem semS_whl (G : X.Good) {t : Expr} {b : List Stmt} {pos} {Q : Fl → AS → Prop} {Inv : AS → Nat → Prop} {keep : List Nat} {m₀ : Nat} {B1 : Nat → Bool → AS → Prop} (h0 : onP (norm np keep [] c) fun q => Inv q.1 m₀)
    (hT : ∀ c₀ m, Inv c₀ m → SemB X r env names Xc (isTrue t env (eval t env)) c₀ (B1 m))
    (hB : ∀ m x c₁, B1 m x c₁ → (x = true → SemS X r np env names Xc (execs b env) c₁ (thenW (fun c₂ => onP (norm np keep [] c₂) fun q => ∃ m', m' < m ∧ Inv q.1 m') Q)) ∧ (x = false → Q .nxt c₁)) :
    SemS X r np env names Xc (exec (.While t b [] pos) env) c Q := by
  intro A as s K E ac st hn hf hk hx
  obtain ⟨⟨q0, w0⟩, e0, hI0⟩ := onP_elim h0
  clear h0
  obtain ⟨as0, n0⟩ := AtS.norm (AtS.refl ac st (np := np)) hn e0
  refine wpAny_While (codeAny_whileLoop (fun m s' => ∃ c0 as', AtS X r np env names A as s c0 as' s' ∧ Inv c0 m) ?_ m₀ ⟨q0, as0, n0, hI0⟩)
  rintro m s' ⟨c0, as', n', hI⟩
  have hx' : Xc → ∀ e s'', ThrownAt X env A as s e s'' → notedBy (model X.prog X.w) A env (cameBackBy (model X.prog X.w) A env E) (.ref e) s'' := fun x e s'' th => passed G ac st hf th fun s2 t2 => hx x e s2 t2
  refine (hT c0 m hI).start n' hn trivial (fun x x' c1 as1 s1 n1 z_ ex q1 => ?_) hx'
  clear G ac e0 hI hI0 hT hx m₀ n' n0 pos q0 st t w0 z_
  cases ex
  clear as0 s'
  obtain ⟨h3, h4⟩ := hB m _ c1 q1
  clear hB q1
  cases x with
  | true =>
    refine (h3 rfl).next n1 hn hf (fun f fl c2 as2 s2 n2 hr hq => ?_) hx'
    have turn : (onP (Mine.norm np keep [] c2) fun q => ∃ m', m' < m ∧ Inv q.1 m') → ∃ m', m' < m ∧ ∃ c0 as', AtS X r np env names A as s c0 as' s2 ∧ Inv c0 m' := fun hq => by
      clear B1 as' c0 h3 h4 hf hk hr hx' n1 s1
      obtain ⟨⟨q, w⟩, eq, m', hm, hI'⟩ := onP_elim hq
      clear E K as1 b c1 f hq
      obtain ⟨as3, n3⟩ := n2.norm hn eq
      exact ⟨m', hm, q, as3, n3, hI'⟩
    clear B1 as' c0 h3 h4 hf hn hx' n1 s1
    have q_ := thenW_case hr hq
    clear as1 b c1
    rcases q_ with ⟨rfl | rfl, hq⟩ | ⟨v, mv, rfl, rfl, hr, hq⟩
    · exact turn hq
    · exact turn hq
    · exact hk (.ret v) (.ret mv) c2 as2 s2 n2 hr hq
  | false => exact wpAny_execs_nil (hk .next .nxt c1 as1 s1 n1 trivial (h4 rfl))
end
end Mine
namespace Mine
section
variable {X : Cx} {r np np' : Nat} {env : Env} {names : Names} {Xc : Prop} {A : Around} {as as' : List Addr} {s s' : Shared} {c c' : AS} {e : Addr}
theorem AtS.weak (n : AtS X r np' env names A as s c' as' s') (h : np ≤ np') : AtS X r np env names A as s c' as' s' := by
  refine ⟨n.cond, n.st, n.kp, n.own, ?_, n.there, n.same⟩
  have := congrArg (List.take np) n.pre
  rwa [List.take_take, List.take_take, Nat.min_eq_left h] at this
theorem AtS.poke (G : X.Good) (n : AtS X r np env names A as s c' as' s') {it : Addr} {h' : Heap} {o : Obj} (hnew : s.heap.get? it = none) (hlo : X.g1.objs.size ≤ it) (hL : it ≠ env.locals) (hA : it ∉ as') (ho : s'.heap.get? it = some o) (hn : ¬ Imm o) (hf : ¬ FrObj o)
    (k : ∀ b o, b ≠ it → s'.heap.get? b = some o → h'.get? b = some o) : AtS X r np env names A as s c' as' { s' with heap := h' } ∧ TKeep s'.heap h' := by
  have tk : TKeep s'.heap h' := fun b x e i => k b x (fun q => by subst q; rw [ho] at e; cases e; exact hn i) e
  have hfr : ∀ b ∈ frAddrs A, b ≠ it := fun b hb q => by
    clear G hA hL hlo hn hnew k tk
    subst q
    clear h'
    obtain ⟨o', e, f⟩ := n.cond.frObj hb
    rw [ho] at e
    clear hb ho n
    cases e
    exact hf f
  have hpt : PT ≠ it := fun q => by subst q; exact absurd G.pt (Nat.not_lt.mpr hlo)
  clear G hf hn ho
  obtain ⟨m, F⟩ := n.st.frame
  have base : Base X h' := ⟨fun b o e => k _ _ (fun q => by subst q; exact absurd (Heap.lt_size e) (Nat.not_lt.mpr hlo)) (n.st.base.1 _ _ e), n.st.base.2.of (by obtain ⟨ps, e, _⟩ := n.st.base.2; rw [e]; exact k _ _ hpt e) tk⟩
  refine ⟨⟨⟨n.cond.handled, n.cond.depth, n.cond.units, ?_, n.cond.off, n.cond.high⟩, ⟨base, ⟨m, ⟨?_, F.high, F.off, F.len, fun i mv x kd e q => (F.var i mv x kd e q).keep tk⟩⟩, n.st.store.1, n.st.store.2.1, fun i o e => ?_⟩, ?_, n.own, n.pre, fun b hb => ?_, ?_⟩, tk⟩
  · clear F base hA hL hlo hnew hpt m o tk
    obtain ⟨l, hl, hff⟩ := n.cond.frames
    refine ⟨l, hl, fun e he => ?_⟩
    clear n
    obtain ⟨h1, L, oL, h2, h3, h4⟩ := hff e he
    refine ⟨h1, L, oL, h2, k _ _ (hfr L ?_) h3, h4⟩
    unfold frAddrs
    rw [hl]
    exact List.mem_filterMap.mpr ⟨e, he, h2⟩
  · clear base hA hfr hlo hnew hpt n o tk
    obtain ⟨oL, es, ep, e, q⟩ := F.ns
    exact ⟨oL, es, ep, k _ _ (Ne.symm hL) e, q⟩
  · clear F base hL hfr hlo hnew hpt m
    obtain ⟨a, ob, h1, h2, h3, h4⟩ := n.st.store.2.2 i o e
    exact ⟨a, ob, h1, h2, k _ _ (fun q => hA (q ▸ List.mem_of_getElem? h1)) h3, h4.keep tk⟩
  · intro b o e nO nP
    clear F base hA hL hfr hlo hpt m tk
    obtain ⟨sl, e', q⟩ := n.kp b o e nO nP
    exact ⟨sl, k _ _ (fun q => by subst q; rw [hnew] at e; cases e) e', q⟩
  · by_cases q : b = it
    · exact q ▸ hnew
    · refine n.there b ?_
      clear F base hA hL hfr hlo hnew hpt m n o tk
      cases w : s'.heap.get? b with
      | none => rfl
      | some x => rw [k b x q w] at hb; cases hb
  · clear F base hA hL hfr hlo hnew hpt k m o
    obtain ⟨h, tk, e⟩ := n.same
    exact ⟨h', tk, by rw [e]⟩
theorem AtS.tkeep (a : ACond X A r as s.heap) (st : St X env names c as s.heap) (n : AtS X r np env names A as s c' as' s') : TKeep s.heap s'.heap := n.kp.tkeep st.base a st.owned
theorem prefix_of {as as' : List Addr} (h : as'.take as.length = as.take as.length) : ∃ bs, as' = as ++ bs := by
  rw [List.take_length] at h
  refine ⟨as'.drop as.length, ?_⟩
  have := List.take_append_drop as.length as'
  rw [h] at this
  exact this.symm
theorem IterAt.back {bs : List Addr} {h h' : Heap} {m : MV} {l : List PV} {it : Addr} {k k' : Nat} (I : IterAt X as h m l it k) (J : IterAt X (as ++ bs) h' m l it k') : IterAt X as h' m l it k' := by
  rcases J with J | ⟨j, a, e1, e2, e3⟩
  · exact .inl J
  · rcases I with ⟨t, vs, n, e, _⟩ | ⟨j', a', f1, f2, _⟩
    · rw [e1] at e; cases e
    · rw [e1] at f1
      cases f1
      rw [List.getElem?_append_left (List.getElem?_eq_some_iff.mp f2).1] at e2
      exact .inr ⟨j, a, e1, e2, e3⟩
theorem fresh_of {as1 : List Addr} {s1 : Shared} {c1 : AS} (st : St X env names c1 as1 s1.heap) {it : Addr} (h : s1.heap.objs.size ≤ it) : Fresh X env as1 s1 it := by
  have hn : s1.heap.get? it = none := none_from h
  refine ⟨hn, Nat.le_trans st.low h, fun q => ?_, fun q => ?_⟩
  · clear h
    obtain ⟨m₀, F₀⟩ := st.frame
    clear st
    obtain ⟨o, e, _⟩ := F₀.obj
    exact nomatch (q ▸ hn).symm.trans e
  · clear h
    obtain ⟨_, _, ob, _, _, _, e, _⟩ := st.store.mem q
    exact nomatch hn.symm.trans e
theorem AtS.stays (G : X.Good) {as1 as4 : List Addr} {s1 s2 s4 : Shared} {c4 : AS} (n : AtS X r np env names A as' s2 c4 as4 s4) (ac : ACond X A r as' s2.heap) {it : Addr} (F : Fresh X env as1 s1 it) (hnot : it ∉ as') {o : Obj} (e : s2.heap.get? it = some o) (nf : ¬ FrObj o) : it ∉ as4 ∧ s4.heap.get? it = some o :=
  And.intro (fun q => (n.own _ q).elim hnot fun q => nomatch q.symm.trans e) <| n.kp.stays G ac F hnot e nf
/-- k items of a for are done -/
inductive ForI (X : Cx) (r np : Nat) (env : Env) (names : Names) (A : Around) (as1 : List Addr) (s1 : Shared) (it : Addr) (len : Nat) (P : Nat → AS → Shared → Prop) (n : Nat) (s' : Shared) : Prop
  | mk (k : Nat) (cb : AS) (as' : List Addr) (e : n = len - k) (h : k ≤ len) (a : AtS X r np env names A as1 s1 cb as' s') (o : it ∉ as') (p : P k cb s') : ForI X r np env names A as1 s1 it len P n s'
theorem ForI.next {P : Nat → AS → Shared → Prop} {len k : Nat} {as1 as4 : List Addr} {s1 s4 : Shared} {it : Addr} {c4 : AS} (h : k < len) (a : AtS X r np env names A as1 s1 c4 as4 s4) (o : it ∉ as4) (p : P (k + 1) c4 s4) : ∃ m, m < len - k ∧ ForI X r np env names A as1 s1 it len P m s4 :=
  ⟨len - (k + 1), Nat.sub_lt_sub_left h (Nat.lt_succ_self k), k + 1, c4, as4, rfl, h, a, o, p⟩
theorem for_turn (G : X.Good) (E : EnvOK env names) {x : Str} {i : Nat} {p : Pos} (hi : names[i]? = some (x, .local)) {b : List Stmt} {FB : AS → (Fl → AS → Prop) → Prop} (hbody : ∀ c Q, FB c Q → SemS X r np env names False (execs b env) c Q)
    {cb : AS} {s2 : Shared} {y : PV} {v : Value} (ac : ACond X A r as' s2.heap) (st : St X env names cb as' s2.heap) (hn : np ≤ as'.length) (hf : FrTop A env) (hy : RepP X s2.heap v y)
    {k : AS → Prop} {Q : Fl → AS → Prop} (hv : FB ⟨cb.ρ.set i (some (.p y)), cb.σ⟩ (thenW k Q)) {K : Flow → Shared → Prop} {E1 E2 : Value → Shared → Prop}
    (h1 : ∀ c4 as4 s4, AtS X r np env names A as' s2 c4 as4 s4 → k c4 → K .next s4 ∧ K .cont s4)
    (h2 : ∀ v mv c4 as4 s4, AtS X r np env names A as' s2 c4 as4 s4 → RepM X as4 s4.heap v mv → Q (.ret mv) c4 → K (.ret v) s4) :
    wpAny (model X.prog X.w) A (assign (.Name x p) env v) (fun z_ s₂ => wpAny (model X.prog X.w) A (execs b env) K E2 s₂) E1 s2 := by
  refine (sem_assignName (r := r) (Xc := False) G E hi (c := cb) (mv := .p y) (Q := fun z_ c' => c' = ⟨cb.ρ.set i (some (.p y)), cb.σ⟩) rfl) A as' s2 _ _ ac st (by simp only [RepM]; exact hy) (fun z_ z_ c3 as3 s3 n3 z_ q3 => ?_) fun f => f.elim
  clear E E1 G ac hi hy p st x z_
  subst q3
  have n3 := n3.toS hn
  refine (hbody _ _ hv) A as3 s3 _ _ n3.cond n3.st (n3.len hn) hf (fun f fl c4 as4 s4 n4 hr hq => ?_) fun f => f.elim
  have n4 := n3.then n4
  clear E2 hbody hf hn hv n3 z_
  have q_ := thenW_case hr hq
  clear FB b n3 y z_
  rcases q_ with ⟨rfl | rfl, hq⟩ | ⟨v, mv, rfl, rfl, hr, hq⟩
  · exact (h1 c4 as4 s4 n4 hq).1
  · exact (h1 c4 as4 s4 n4 hq).2
  · exact h2 v mv c4 as4 s4 n4 hr hq
/-- one turn of a for over a list or a tuple -/
abbrev ForP (X : Cx) (as1 : List Addr) (m : MV) (l : List PV) (ita : Addr) (i : Nat) (chk : List MO → Prop) (FB : AS → (Fl → AS → Prop) → Prop) (Q : Fl → AS → Prop) (k : Nat) (cb : AS) (s' : Shared) : Prop :=
  IterAt X as1 s'.heap m l ita k ∧ iterOf cb.σ m = some l ∧ vcTurns FB chk i (l.drop k) cb Q
theorem for_step (G : X.Good) (E : EnvOK env names) {x : Str} {i : Nat} {p : Pos} (hi : names[i]? = some (x, .local)) {b : List Stmt} {FB : AS → (Fl → AS → Prop) → Prop} {as1 : List Addr} {s1 : Shared} {ita : Addr} {l : List PV} {m : MV} {σ1 : List MO} {Q : Fl → AS → Prop} {n : Nat}
    (hbody : ∀ c Q, FB c Q → SemS X r as1.length env names False (execs b env) c Q) (F : Fresh X env as1 s1 ita) (hl : iterOf σ1 m = some l) (hf : FrTop A env)
    (I : ForI X r as1.length env names A as1 s1 ita l.length (ForP X as1 m l ita i (stillAt m σ1) FB Q) n s') {K : Option Value → Shared → Prop} {KB : Flow → Shared → Prop} {E0 E1 E2 : Value → Shared → Prop}
    (h0 : ∀ cb as' s2, AtS X r as1.length env names A as1 s1 cb as' s2 → Q .nxt cb → K none s2)
    (h1 : ∀ v s2, wpAny (model X.prog X.w) A (assign (.Name x p) env v) (fun z_ s₂ => wpAny (model X.prog X.w) A (execs b env) KB E2 s₂) E1 s2 → K (some v) s2)
    (h2 : ∀ s4, (∃ m', m' < n ∧ ForI X r as1.length env names A as1 s1 ita l.length (ForP X as1 m l ita i (stillAt m σ1) FB Q) m' s4) → KB .next s4 ∧ KB .cont s4)
    (h3 : ∀ v mv c4 as4 s4, AtS X r as1.length env names A as1 s1 c4 as4 s4 → RepM X as4 s4.heap v mv → Q (.ret mv) c4 → KB (.ret v) s4) :
    wpAny (model X.prog X.w) A (pyNext (.ref ita)) K E0 s' := by
  obtain ⟨k, cb, as', e, hkl, n', hnot, I, hio, hv⟩ := I
  clear hkl
  obtain ⟨oi, eo, ni1, ni2⟩ := iter_notImm I
  obtain ⟨bs, eb⟩ := prefix_of n'.pre
  have I' : IterAt X as' s'.heap m l ita k := eb ▸ I.keep (fun z_ z_ e z_ => e) fun z_ e => e
  refine pm_next n'.cond n'.st I' hio (fun hnone h' kk => ?_) (fun y hy v' h' hsame hrv hI => ?_)
  · rw [List.drop_eq_nil_of_le (List.getElem?_eq_none_iff.mp hnone)] at hv
    exact h0 cb as' _ (n'.poke G F.none F.high F.loc hnot eo ni1 ni2 kk).1 hv
  · have ⟨n2, tk2⟩ := n'.poke G F.none F.high F.loc hnot eo ni1 ni2 (fun b o nb e => (hsame b nb).trans e)
    have I2 := hI tk2
    have ⟨hil, hy⟩ := List.getElem?_eq_some_iff.mp hy
    rw [List.drop_eq_getElem_cons hil, hy] at hv
    have ⟨o2, eo2, _, nf2⟩ := iter_notImm I2
    refine h1 _ _ (for_turn G E hi hbody n2.cond n2.st (n2.len (Nat.le_refl _)) hf (hrv.keep tk2) hv (fun c4 as4 s4 n4 hq => ?_) fun v mv c4 as4 s4 n4 => h3 v mv c4 as4 s4 (n2.then n4))
    have ⟨hnot4, eo4⟩ := n4.stays G n2.cond F hnot eo2 nf2
    exact h2 s4 (e ▸ ForI.next hil (n2.then n4) hnot4 ⟨by
      have := (I.back (bs := bs) (eb ▸ I2)).keep (bs := []) (n4.tkeep n2.cond n2.st) fun o e => eo4.trans (eo2.symm.trans e)
      rwa [List.append_nil] at this, iterOf_still hl hq.1, hq.2⟩)
theorem semS_for (G : X.Good) (E : EnvOK env names) {x : Str} {i : Nat} {p : Pos} {it : Expr} {b : List Stmt} {pos} (hi : names[i]? = some (x, .local)) (hset : isSet it = false) {FB : Nat → AS → (Fl → AS → Prop) → Prop}
    (hbody : ∀ np' c Q, FB np' c Q → SemS X r np' env names False (execs b env) c Q) {Q : Fl → AS → Prop} {Q1 : MV → AS → Prop} (h1 : SemE X r env names Xc (eval it env) c Q1)
    (h2 : ∀ v c1, Q1 v c1 → onP (iterOf c1.σ v) fun l => l.length ≤ lim ∧ vcTurns (FB c1.σ.length) (stillAt v c1.σ) i l c1 Q) : SemS X r np env names Xc (exec (.For (.Name x p) it b [] pos) env) c Q := by
  intro A as s K Ex ac st hn hf hk hx
  refine wpAny_For (h1.start (.refl ac st) hn trivial (fun v m c1 as1 s1 n1 z_ r1 q1 => ?_) hx) (fold_plain hset env)
  clear ac h1 hset hx it pos st
  obtain ⟨l, hl, _, hvc⟩ := onP_elim (h2 m c1 q1)
  rw [← n1.st.store.1] at hvc
  have hnp : np ≤ as1.length := n1.len hn
  exact pm_iter G n1.cond n1.st r1 hl fun hA kA IA szA => have F := fresh_of n1.st (Nat.le_refl _)
    codeAny_forLoop _ (fun n s' I => for_step G E hi (hbody _) F hl hf I (fun cb as' s2 n2 hq => wpAny_execs_nil (hk .next .nxt cb as' _ (n1.then (n2.weak hnp)) trivial hq)) (fun z_ z_ h => h) (fun z_ h => ⟨h, h⟩)
      fun v mv c4 as4 s4 n4 hr hq => hk (.ret v) (.ret mv) c4 as4 s4 (n1.then (n4.weak hnp)) hr hq) l.length
      ⟨0, c1, as1, rfl, Nat.zero_le _, (At.grow (tk := s1.toks) (h' := hA) n1.cond n1.st kA).toS (Nat.le_refl _), F.no, IA, hl, hvc⟩ fun z_ => rfl
end
end Mine
namespace Mine
noncomputable def RangeOK (X : Cx) : Prop := X.mg ("range" : Str) = none ∧ X.mb ("range" : Str) = some (.type "range")
theorem rangeP_get {n : Int} {k : Nat} {y : PV} (h : (rangeP n)[k]? = some y) : k < n.toNat ∧ y = .int (k : Int) := by
  unfold rangeP at h
  rw [List.getElem?_map, Option.map_eq_some_iff] at h
  obtain ⟨j, h1, h2⟩ := h
  have hl := (List.getElem?_eq_some_iff.mp h1).1
  rw [List.length_range] at hl
  rw [List.getElem?_range hl] at h1
  cases h1
  exact ⟨hl, h2.symm⟩
theorem rangeP_len (n : Int) : (rangeP n).length = n.toNat := by simp [rangeP]
section
variable {X : Cx} {r np : Nat} {env : Env} {names : Names} {Xc : Prop} {A : Around} {as as' : List Addr} {s s' : Shared} {c c' : AS} {e : Addr}
theorem rng_notImm {h : Heap} {ita : Addr} {x y z : Int} (I : IsRangeIter h ita x y z) : ∃ o, h.get? ita = some o ∧ ¬ Imm o ∧ ¬ FrObj o := by
  exact ⟨_, I, nImm_fields rfl rfl (fun _ _ => nofun), nFr_fields rfl⟩
theorem AtS.tick (n : AtS X r np env names A as s c' as' s') {tk : Nat} : AtS X r np env names A as s c' as' { s' with toks := tk } :=
  ⟨n.cond, n.st, n.kp, n.own, n.pre, n.there, by obtain ⟨h, _, e⟩ := n.same; exact ⟨h, tk, by rw [e]⟩⟩
abbrev RngP (ita : Addr) (i : Nat) (z : Int) (FB : AS → (Fl → AS → Prop) → Prop) (Q : Fl → AS → Prop) (k : Nat) (cb : AS) (s' : Shared) : Prop :=
  IsRangeIter s'.heap ita (k : Int) ((z.toNat : Int) - k) 1 ∧ vcTurns FB (fun z_ => True) i ((rangeP z).drop k) cb Q
theorem left_none {k n : Nat} (h : ¬ k < n) : ((n : Int) - k) ≤ 0 := by omega
theorem left_one {k n : Nat} (h : k < n) : 0 < ((n : Int) - k) := by omega
theorem left_next {k n : Nat} : (n : Int) - ((k + 1 : Nat) : Int) = (n : Int) - k - 1 := by omega
theorem forR_step (G : X.Good) (E : EnvOK env names) {x : Str} {i : Nat} {p : Pos} (hi : names[i]? = some (x, .local)) {b : List Stmt} {FB : AS → (Fl → AS → Prop) → Prop} {as1 : List Addr} {s1 : Shared} {ita : Addr} {z : Int} {Q : Fl → AS → Prop} {n : Nat}
    (hbody : ∀ c Q, FB c Q → SemS X r np env names False (execs b env) c Q) (F : Fresh X env as1 s1 ita) (hn : np ≤ as1.length) (hf : FrTop A env)
    (I : ForI X r np env names A as1 s1 ita z.toNat (RngP ita i z FB Q) n s') {K : Option Value → Shared → Prop} {KB : Flow → Shared → Prop} {E0 E1 E2 : Value → Shared → Prop}
    (h0 : ∀ cb as' s2, AtS X r np env names A as1 s1 cb as' s2 → Q .nxt cb → K none s2)
    (h1 : ∀ v s2, wpAny (model X.prog X.w) A (assign (.Name x p) env v) (fun z_ s₂ => wpAny (model X.prog X.w) A (execs b env) KB E2 s₂) E1 s2 → K (some v) s2)
    (h2 : ∀ s4, (∃ m', m' < n ∧ ForI X r np env names A as1 s1 ita z.toNat (RngP ita i z FB Q) m' s4) → KB .next s4 ∧ KB .cont s4)
    (h3 : ∀ v mv c4 as4 s4, AtS X r np env names A as1 s1 c4 as4 s4 → RepM X as4 s4.heap v mv → Q (.ret mv) c4 → KB (.ret v) s4) :
    wpAny (model X.prog X.w) A (pyNext (.ref ita)) K E0 s' := by
  obtain ⟨k, cb, as', e, hkl, n', hnot, I, hv⟩ := I
  clear hkl
  obtain ⟨oi, eo, ni1, ni2⟩ := rng_notImm I
  by_cases hil : k < z.toNat
  · refine wpAny_pyNext_range_item I (left_one hil) fun h' hI2 hs => ?_
    have n2 := (n'.poke G F.none F.high F.loc hnot eo ni1 ni2 (fun b o nb e => (hs.2 b nb).trans e)).1.tick (tk := s'.toks + 1)
    have hlt : k < (rangeP z).length := by rw [rangeP_len]; exact hil
    have hy : (rangeP z)[k] = .int (k : Int) := (rangeP_get (List.getElem?_eq_getElem hlt)).2
    rw [List.drop_eq_getElem_cons hlt, hy] at hv
    have ⟨o2, eo2, _, nf2⟩ := rng_notImm hI2
    refine h1 _ _ (for_turn G E hi hbody n2.cond n2.st (n2.len hn) hf (y := .int (k : Int)) (by simp only [RepP]; exact ⟨_, rfl⟩) hv (fun c4 as4 s4 n4 hq => ?_) fun v mv c4 as4 s4 n4 => h3 v mv c4 as4 s4 (n2.then n4))
    have ⟨hnot4, eo4⟩ := n4.stays G n2.cond F hnot eo2 nf2
    exact h2 s4 (e ▸ ForI.next hil (n2.then n4) hnot4 ⟨by rw [left_next]; exact eo4.trans (eo2.symm.trans hI2), hq.2⟩)
  · refine wpAny_pyNext_range_end n'.cond.handled I (left_none hil) fun h' kk => ?_
    rw [List.drop_eq_nil_of_le (by rw [rangeP_len]; exact Nat.not_lt.mp hil)] at hv
    exact h0 cb as' _ (n'.poke G F.none F.high F.loc hnot eo ni1 ni2 (fun b o nb e => kk b o nb e)).1 hv
theorem RV_int {m : MV} {n : Int} {h : Heap} {v : Value} (e : asInt m = some n) (q : RV X as h v m) : ∃ t, v = .int n t := by
  rw [asInt_inv e] at q
  simpa only [RV, RepM, RepP] using q
theorem fresh_push (st : St X env names c as s.heap) {o : Obj} : Fresh X env as s (s.heap.push o).objs.size := fresh_of st (by rw [Heap.size_push]; exact Nat.le_succ _)
theorem rangeSize_nat {z : Int} (h : 0 ≤ z) : Builtin.Range.rangeSize 0 z 1 = (z.toNat : Int) := by rw [rangeSize_one]; split <;> omega
theorem forR_start (G : X.Good) (E : EnvOK env names) {x : Str} {i : Nat} {p : Pos} (hi : names[i]? = some (x, .local)) {b : List Stmt} {FB : AS → (Fl → AS → Prop) → Prop} {z : Int} {t : Nat} {Q : Fl → AS → Prop}
    (hbody : ∀ c Q, FB c Q → SemS X r np env names False (execs b env) c Q) (ac : ACond X A r as s.heap) (st : St X env names c as s.heap) (hn : np ≤ as.length) (hf : FrTop A env) (hlim : 0 ≤ z ∧ z ≤ lim) (hvc : vcTurns FB (fun z_ => True) i (rangeP z) c Q)
    {K : Value → Shared → Prop} {KF : Result → Shared → Prop} {E0 E1 : Value → Shared → Prop} (hK : ∀ v s2, wpAny (model X.prog X.w) A (pyIter v) (fun it s₂ => codeAny (model X.prog X.w) A (.forLoop (.Name x p) it b [] env) KF s₂) E0 s2 → K v s2)
    (h0 : ∀ f fl cb as' s2, AtS X r np env names A as s cb as' s2 → RF X as' s2.heap f fl → Q fl cb → KF (.ok f) s2) :
    wpAny (model X.prog X.w) A (call (.type "range") [.int z t]) K E1 s := by
  refine call_range_1 (hK _ _ ?_)
  refine wpAny_pyIter_range (IsRange.new ..) (small_one (by decide) (by decide) (Int.le_trans (by decide) hlim.1) (Int.lt_of_le_of_lt hlim.2 (by decide))) ?_
  rw [rangeSize_nat hlim.1]
  refine codeAny_forLoop _ (fun n s' I => forR_step G E hi hbody (fresh_push st) hn hf I (fun cb as' s2 n2 hq => wpAny_execs_nil (h0 .next .nxt cb as' _ n2 trivial hq)) (fun z_ z_ h => h) (fun z_ h => ⟨h, h⟩)
      fun v mv c4 as4 s4 n4 hr hq => h0 (.ret v) (.ret mv) c4 as4 s4 n4 hr hq) z.toNat
      ⟨0, c, as, rfl, Nat.zero_le _, (At.grow (tk := s.toks + 1 + 1) ac st fun b o e => Heap.get?_push_of_some _ (Heap.get?_push_of_some _ e)).toS hn, (fresh_push st).no, Heap.get?_push_size _ rfl, hvc⟩ fun z_ => rfl
theorem semS_forR (G : X.Good) (RO : RangeOK X) (E : EnvOK env names) {x : Str} {i : Nat} {p p1 p2 : Pos} {e : Expr} {b : List Stmt} {pos} (hi : names[i]? = some (x, .local)) (hg : names.lookup ("range" : Str) = some .globalImplicit) (hstar : isStar e = false) {FB : AS → (Fl → AS → Prop) → Prop}
    (hbody : ∀ c Q, FB c Q → SemS X r np env names False (execs b env) c Q) {Q : Fl → AS → Prop} {Q1 : MV → AS → Prop} (h1 : SemE X r env names Xc (eval e env) c Q1)
    (h2 : ∀ v c1, Q1 v c1 → onP (asInt v) fun k => (0 ≤ k ∧ k ≤ lim) ∧ vcTurns FB (fun z_ => True) i (rangeP k) c1 Q) : SemS X r np env names Xc (exec (.For (.Name x p) (.Call (.Name ("range" : Str) p1) [e] [] p2) b [] pos) env) c Q := by
  intro A as s K Ex ac st hn hf hk hx
  refine wpAny_For ?_ (fun x => rfl)
  show wpAny _ _ (do callWith p2 (← eval (.Name ("range" : Str) p1) env) [] (backTo p2 (starEach [e] env)) (backToKw p2 (keywordEach [] env))) _ _ _
  refine wpAny_bind (Calls.Name_function_global E.kind ((kind_of E _).trans hg) (Calls.loadGlobal_builtin (by rw [E.globals]; exact G.g.keeps st.base.1) RO.1 (by rw [E.builtins]; exact G.b.keeps st.base.1) RO.2 ?_) (by decide))
  refine callWith_gen (star_plain (by simp [hstar]) p2) (wpAny_items_cons (h1.start (.refl ac st) hn trivial (fun v m c1 as1 s1 n1 z_ r1 q1 => wpAny_items_nil ⟨.type, ?_⟩) hx) (starEach_cons hstar))
  clear RO ac h1 hg hstar hx p1 p2 pos st z_
  obtain ⟨n, hni, hlim, hvc⟩ := onP_elim (h2 m c1 q1)
  clear e h2 q1
  have q_ := RV_int hni r1
  clear Q1 hni r1
  obtain ⟨t, rfl⟩ := q_
  exact forR_start G E hi hbody n1.cond n1.st (n1.len hn) hf hlim hvc (fun v s2 h => h) fun f fl cb as' s2 n2 hr hq => hk f fl cb as' s2 (n1.then n2) hr hq
end
end Mine
namespace Mine
/-! ## an exception class of the text whose base makes it -/
noncomputable def excTail : List Value := [.type "Exception", .type "BaseException", .type "object"]
section
variable {prog : Program} {w : World} {M : Model} {A : Around} {E : Value → Shared → Prop} {h : Heap} {g : Array GenState} {d : Drawn} {t : Nat} {os : OsState}
variable {nm q : Str} {C D N : Addr} {bs : List Value} {hdct : Bool} {sn : List Str} {sub : List Value} {ab : Bool} {col : Option Bool} {dd : Option Addr} {k0 k1 k2 k3 k5 : Option Value}
theorem x_checkNew {rest : List Value} {Q : Unit → Shared → Prop} (hC : h.get? C = some (excClassObj nm q C N bs (.ref D :: excTail) hdct sn sub ab col dd k0 k1 k2 k3 k5 "Exception.__new__"))
    (hq : Q () ⟨h, g, d, t, os⟩) : wpAny M A (checkBuiltinCall "Exception.__new__" ⟨.ref C :: rest, []⟩) Q E ⟨h, g, d, t, os⟩ := by
  have F := F.excBase_Exception
  have hcont : (Value.ref C :: .ref D :: excTail).contains (.type "Exception") = true := by rw [List.contains_cons, List.contains_cons, show excTail.contains (.type "Exception") = true by decide +kernel, Bool.or_true, Bool.or_true]
  have hstar := F.noStar
  simp only [checkBuiltinCall, F.newKind, F.newSplit, F.newRow]
  repeat (first | refine wpAny_loadPart_at hC ?_ | (refine wpAny_isSubtype_exc hC ?_; rw [hcont]) | refine wpAny_staticBase_exc hC ?_ | refine wpAny_madeBy_exc hC ?_ | simp only [bne_self_eq_false, Bool.false_eq_true, if_false] | wp_step)
  exact hq
theorem x_new {R : Result → Shared → Prop} {rest : List Value} (hC : h.get? C = some (excClassObj nm q C N bs (.ref D :: excTail) hdct sn sub ab col dd k0 k1 k2 k3 k5 "Exception.__new__"))
    (hq : R (.ok (.ret (.ref (h.objs.size + 1)))) ⟨(h.push { cls := .type "tuple", data := .seq rest.toArray }).push
      { cls := .ref C, data := .fields #[.ref h.objs.size, .none, .none, .none, .bool false, .none] }, g, d, t, os⟩) (hrest : rest.length ≤ sizeLine) :
    codeAny (model prog w) A (.builtin "Exception.__new__" ⟨.ref C :: rest, []⟩) R ⟨h, g, d, t, os⟩ := by
  have F := F.excBase_Exception
  have hends := F.ends
  have hcB : (Value.ref C :: .ref D :: excTail).contains (.type "Exception") = true := by rw [List.contains_cons, List.contains_cons, show excTail.contains (.type "Exception") = true by decide +kernel, Bool.or_true, Bool.or_true]
  have hcA : (Value.ref C :: .ref D :: excTail).contains (.type "AttributeError") = false := by rw [List.contains_cons, List.contains_cons, show excTail.contains (.type "AttributeError") = false by decide +kernel]; rfl
  have hcN : (Value.ref C :: .ref D :: excTail).contains (.type "NameError") = false := by rw [List.contains_cons, List.contains_cons, show excTail.contains (.type "NameError") = false by decide +kernel]; rfl
  refine codeAny_builtinAt F.entry ?_
  unfold Builtin.«BaseException.__new__»
  refine PySem.wpAt_bind ?_
  show PySem.wpAt _ _ _ (stack >>= _) _ _ _
  refine PySem.wpAt_bind (PySem.wpAt_stack fun p below => PySem.wpAt_of_wpAny ?_)
  wp_walk
  refine PySem.wpAt_of_wpAny ?_
  rw [F.owner]
  repeat (first | with_reducible refine wpAny_madeHere_exc F.canon hC ?_ | with_reducible refine wpAny_loadPart_at hC ?_ | (with_reducible refine wpAny_isSubtype_exc hC ?_; first | rw [hcB] | rw [hcA] | rw [hcN]) | wp_step)
  show R _ _
  rw [Heap.size_push]
  exact hq
/-- the class is called -/
theorem x_call {K : Frag} (XK : K.In h) {rest : List Value} {fI : Addr} {Q : Value → Shared → Prop} (hC : h.get? C = some (excClassObj nm q C N bs (.ref D :: excTail) hdct sn sub ab col dd k0 k1 k2 k3 k5 "Exception.__new__"))
    (hi : findIn K (.ref C) "__init__" = some (some (.ref fI))) (hfc : typeIn K (.ref fI) = some (.type "function")) (hrest : rest.length ≤ sizeLine)
    (hq : ∀ h' e, Heap.MadeExcOf h h' e (.ref C) rest →
      wpAny (model prog w) (A.under (.builtin "type.__call__" ⟨.ref C :: rest, []⟩)) (call (.ref fI) (.ref e :: rest)) (fun r s' => r = .none ∧ Q (.ref e) s') E ⟨h', g, d, t, os⟩) :
    wpAny (model prog w) A (call (.ref C) rest) Q E ⟨h, g, d, t, os⟩ := by
  have f1 := tc_lookup
  have f2 := tc_bind (.ref C)
  have hT : (⟨h, g, d, t, os⟩ : Shared).TypeIs (.ref C) "type" := ⟨_, hC, rfl⟩
  have F := F.excBase_Exception
  refine wpAny_call (codeAny_of_tree ?_)
  show wpAny _ _ (callAny (.ref C) _) _ _ _
  repeat (any_goals (first | assumption | with_reducible refine wpAny_loadPart_at hC ?_ | wp_step))
  refine ⟨rfl, ?_⟩
  refine codeAny_call_builtin_at (Code.quiet_builtin _ (by decide +kernel)) entry_typeCall (wpAny_check_type_call_sub hC ?_)
  repeat (first | with_reducible refine wpAny_loadPart_at hC ?_ | with_reducible refine wpAny_madeBy_exc hC ?_ | wp_step)
  refine codeAny_call_builtin_code (Code.quiet_builtin _ F.quiet) (x_checkNew hC ?_)
  refine x_new hC ?_ hrest
  show wpAny _ _ _ _ _ _
  have k : ∀ b o, h.get? b = some o → ((h.push { cls := .type "tuple", data := .seq rest.toArray }).push { cls := .ref C, data := .fields #[.ref h.objs.size, .none, .none, .none, .bool false, .none] }).get? b = some o := fun b o e => Heap.get?_push_of_some _ (Heap.get?_push_of_some _ e)
  have hC₁ := k _ _ hC
  have hget : ((h.push { cls := .type "tuple", data := .seq rest.toArray }).push
      { cls := .ref C, data := .fields #[.ref h.objs.size, .none, .none, .none, .bool false, .none] }).get? (h.objs.size + 1) = some
      { cls := .ref C, data := .fields #[.ref h.objs.size, .none, .none, .none, .bool false, .none] } := by heap_get
  have hcC : (Value.ref C :: .ref D :: excTail).contains (.ref C) = true := by simp
  unfold isInstance
  repeat (first | with_reducible refine wpAny_loadPart_at hget ?_ | (with_reducible refine wpAny_isSubtype_exc hC₁ ?_; rw [hcC]) | wp_step)
  refine wpAny_isSubtype_exc hC₁ ?_
  rw [hcC]
  repeat (first | with_reducible refine wpAny_loadPart_at hget ?_ | wp_step)
  show wpAny _ _ (typeLookup (.ref C) _) _ _ _
  refine Looks.here (s := ⟨_, g, d, t, os⟩) ((looks_findIn XK hi).keeps k) ?_
  refine wpAny_holding (wpAny_bind (Looks.here (s := ⟨_, g, d, t, os⟩) ((bind_fn XK (.ref (h.objs.size + 1)) hfc).keeps k) ?_))
  refine wpAny_bind (wpAny_mono (hq _ (h.objs.size + 1) ⟨k, Heap.get?_none_of_le (Nat.le_succ _), h.objs.size, hget, Heap.get?_none_of_le (Nat.le_refl _), ?_⟩) (fun r s' hr => ?_) fun z_ z_ x => x)
  · exact Heap.get?_push_of_some _ (Heap.get?_push_at rfl rfl)
  · clear F XK f1 f2 hC hC₁ hT hcC hfc hget hi hq hrest k
    obtain ⟨rfl, hQ⟩ := hr
    wp_walk
    exact hQ
end
end Mine
namespace Mine
/-! ## its __init__: the base's, and two attributes -/
structure ExcCls (K : Frag) : Prop where
  obj : ∃ nm q N bs sn sub ab col dd k0 k1 k2 k3 k5, K.lookup 45 = some (excClassObj nm q 45 N bs (.ref 32 :: excTail) true sn sub ab col dd k0 k1 k2 k3 k5 "Exception.__new__")
  init : findIn K (.ref 45) "__init__" = some (some (.ref 29))
  fn : typeIn K (.ref 29) = some (.type "function")
  sa : findIn K (.ref 45) "__setattr__" = some (some (.builtin "object.__setattr__"))
  m1 : findIn K (.ref 45) "message" = some none
  m2 : findIn K (.ref 45) "spot" = some none
  keep : keepIn K (.ref 45) = true
  base : findCls K (.type "Exception") (.type "type") "__init__" = some (.val (.builtin "Exception.__init__"))
/-- an exception on its way into the world; P: what stays -/
structure ExcNew (P : Addr → Obj → Prop) (h : Heap) (e : Addr) (k : Nat) : Prop where
  keep : ∀ b o, P b o → h.get? b = some o
  new : ∀ o, ¬ P e o
  obj : ∃ t dd, h.get? e = some { cls := .ref 45, dict := dd, data := .fields #[.ref t, .none, .none, .none, .bool false, .none] } ∧ (match dd with
    | none => True
    | some d => d ≠ e ∧ (∀ o, ¬ P d o) ∧ ∃ es n, h.get? d = some (dictOf es n) ∧ es.length ≤ k ∧ ∀ x ∈ es, x.refKey = false)
section
variable {prog : Program} {w : World} {M : Model} {A : Around} {E : Value → Shared → Prop} {s : Shared} {K : Frag} {P : Addr → Obj → Prop} {e : Addr}
theorem ExcNew.keepK (XK : ∀ a o, K.lookup a = some o → P a o) {k : Nat} (x : ExcNew P s.heap e k) : K.In s.heap := fun a o e => x.keep a o (XK a o e)
theorem method_type_mine {T : String} {name : Str} {v : Value} {pl : Sem Bool} {Q : Value × List Value → Shared → Prop} (X : K.In s.heap) (ht : typeOf (.type T) = pure (.type "type")) (hs : Manifest.isStub T = false)
    (e : findCls K (.type T) (.type "type") name = some (.val v)) (hh : handedIn v = true) (h : Q (v, []) { s with toks := s.toks + 1 }) : wpAny (model prog w) A (getMethod (.type T) name pl) Q E s := by
  have hstub : opaqueClassAbove (.type T) = pure none := by unfold opaqueClassAbove; dsimp only; rw [hs]; rfl
  have L0 : Looks (model prog w) s.heap (typeOf (.type T)) (.type "type") := Looks.of_pure ht
  have hg : findIn K (.type "type") "__getattribute__" = some (some (.builtin "type.__getattribute__")) := type_tga
  unfold getMethod specialOf
  refine wpAny_bind (wpAny_bind (L0.here ((looks_findIn X hg).here ?_)))
  dsimp only
  rw [if_pos canon_tga]
  refine wpAny_bind (wpAny_mono (Q := fun v => Q (v, [])) (E := E) ?_ (fun z_ z_ z => wpAny_pure z) fun z_ z_ z => z)
  have LO : Looks (model prog w) s.heap (opaqueClassAbove (.type T)) none := Looks.of_pure hstub
  refine cls_open X LO L0 hg (looks_hook X (r := none) (by rfl)) (by show subIn K _ _ = _; rfl) e
    (wpAny_pure (by show wpAny _ _ (handedOut v) _ _ _; rw [handedOut_of hh]; exact wpAny_pure h))
theorem x_checkInit {nm q : Str} {C D N : Addr} {bs : List Value} {hdct : Bool} {sn : List Str} {sub : List Value} {ab : Bool} {col : Option Bool} {dd : Option Addr} {k0 k1 k2 k3 k5 : Option Value} {h : Heap} {g : Array GenState} {d : Drawn} {t : Nat} {os : OsState} {oe : Obj} {rest : List Value} {Q : Unit → Shared → Prop}
    (hC : h.get? C = some (excClassObj nm q C N bs (.ref D :: excTail) hdct sn sub ab col dd k0 k1 k2 k3 k5 "Exception.__new__")) (he : h.get? e = some oe) (hcls : oe.cls = .ref C) (hq : Q () ⟨h, g, d, t, os⟩) :
    wpAny M A (checkBuiltinCall "Exception.__init__" ⟨.ref e :: rest, []⟩) Q E ⟨h, g, d, t, os⟩ := by
  have F := F.excBase_Exception
  have hcB : (Value.ref C :: .ref D :: excTail).contains (.type "Exception") = true := by rw [List.contains_cons, List.contains_cons, show excTail.contains (.type "Exception") = true by decide +kernel, Bool.or_true, Bool.or_true]
  have hshort := F.noStar
  simp only [checkBuiltinCall, F.initKind, F.initSplit, F.initRow]
  repeat (first | (with_reducible refine wpAny_loadPart_at he ?_; rw [hcls]) | with_reducible refine wpAny_loadPart_at hC ?_ | (with_reducible refine wpAny_isSubtype_exc hC ?_; rw [hcB]) | wp_step)
  refine wpAny_onRaise ?_
  rw [show ∀ (a b : String) (n : Nat), Bind.check ⟨.positional, "*", "Exception", .self, [⟨"args", .varPos, false⟩]⟩ a b n (List.map (fun x => x.fst) ({ pos := Value.ref e :: rest } : Args).kw) = pure () from
    fun a b n => check_star_args _ _ _ _ _ _]
  exact wpAny_pure hq
theorem x_baseInit (XK : ∀ a o, K.lookup a = some o → P a o) (CK : ExcCls K) {k : Nat} (x : ExcNew P s.heap e k) {v : Value} {Q : Value → Shared → Prop} (hq : ∀ h', ExcNew P h' e k → Q .none { s with heap := h' }) :
    wpAny (model prog w) A (call (.builtin "Exception.__init__") [.ref e, v]) Q E s := by
  obtain ⟨nm, q, N, bs, sn, sub, ab, col, dd, k0, k1, k2, k3, k5, hC⟩ := CK.obj
  have XS := x.keepK XK
  have hC := XS _ _ hC
  clear CK XK XS
  obtain ⟨t, dx, he, hd⟩ := x.obj
  have F := F.excBase_Exception
  obtain ⟨h, g, d, tk, os⟩ := s
  refine wpAny_call (codeAny_call_builtin F.init.plain F.initEntry (x_checkInit hC he rfl ?_))
  wp_walk
  have hnew : ∀ b o, P b o → b ≠ e := fun b o hb q => x.new o (q ▸ hb)
  have hpush : ∀ b o, h.get? b = some o → (h.push { cls := .type "tuple", data := .seq #[v] }).get? b = some o := fun b o e => Heap.get?_push_of_some _ e
  refine hq _ ⟨fun b o hb => ?_, x.new, h.objs.size, dx, ?_, ?_⟩
  · rw [Heap.get?_update_other _ _ (Ne.symm (hnew b o hb))]
    exact hpush _ _ (x.keep b o hb)
  · rw [Heap.get?_update_self _ (hpush _ _ he) rfl]
    rfl
  · clear A E F hC he hnew hq prog t w x
    cases dx with
    | none => trivial
    | some d' =>
      clear Q hC k0 k1 k2 k3 k5 nm q sn sub
      obtain ⟨h1, h2, es, n, h3, h4, h5⟩ := hd
      exact ⟨h1, h2, es, n, by rw [Heap.get?_update_other _ _ (Ne.symm h1)]; exact hpush _ _ h3, h4, h5⟩
theorem refuse_exc (self : Value) : refuseLoop self "__setattr__" (.ref 45 :: .ref 32 :: excTail) = pure () := by
  rw [refuseLoop_ref, refuseLoop_ref]
  kernel_rfl
theorem getL_some {name : Str} : ∀ {es : List DictEntry}, (∀ x ∈ es, x.refKey = false) → (!es.toArray.any (·.key.isStr name) && es.toArray.any (·.refKey)) = false := fun {es} h => by
  rw [List.any_toArray, List.any_toArray]
  have : es.any (·.refKey) = false := List.any_eq_false.mpr fun x hx => by rw [h x hx]; simp
  rw [this, Bool.and_false]
theorem putL_keys {name : Str} {hh : Int} {t : Tok} {v : Value} : ∀ {es : List DictEntry}, (∀ x ∈ es, x.refKey = false) → ∀ x ∈ putL name hh (.str name t) v es, x.refKey = false := @fun y1_ y2_ y3_ y4_ => match y1_, y2_, y3_, y4_ with
  | [], z1_, x, hx => by
    simp only [putL, List.mem_singleton] at hx
    clear y2_ y4_ z1_
    subst hx
    rfl
  | a :: r, h, x, hx => by
    simp only [putL] at hx
    split at hx
    · clear y2_ y4_
      have q_ := List.mem_cons.mp hx
      clear hh t y1_ y3_
      rcases q_ with rfl | hx
      · have := h a (.head _)
        exact this
      · exact h x (.tail _ hx)
    · clear y2_ y4_
      have q_ := List.mem_cons.mp hx
      clear y1_ y3_
      rcases q_ with rfl | hx
      · exact h _ (.head _)
      · exact putL_keys (fun y hy => h y (.tail _ hy)) x hx
/-- into the dict of it -/
theorem x_intoDict {name : Str} {tk : Tok} {v : Value} {dx : Addr} {es : List DictEntry} {n : Nat} {Q : Fin → Shared → Prop} (D : s.heap.get? dx = some (dictOf es n)) (hz : es.length ≤ 10) (hk : ∀ x ∈ es, x.refKey = false)
    (h : Q (.done (.ret .none)) { s with heap := s.heap.update dx (Obj.putName name (PyData.keyHash w.params name) (.str name s.toks) v), toks := s.toks + 1 }) :
    wpAny (model prog w) A (PySem.Builtin.ObjectAttr.storeInDict dx (.str name tk) name v) Q E s := by
  have D' : (s.heap.update dx (Obj.putName name (PyData.keyHash w.params name) (.str name s.toks) v)).get? dx = some (dictOf (putL name (PyData.keyHash w.params name) (.str name s.toks) v es) (putN name es n)) := by
    rw [← putName_dict]
    exact Heap.get?_update_self _ D (by rw [putName_dict]; rfl)
  refine wpAny_bind (wpAny_pure (wpAny_bind ?_))
  unfold nsSet
  refine wpAny_bind (wpAny_bind (wpAny_askSetting (wpAny_pure (wpAny_bind (wpAny_mkText (wpAny_bind (wpAny_loadPart D ?_)))))))
  dsimp only
  rw [aRefKeyMayBeTheName_at, getL_some hk]
  refine wpAny_updatePart D ?_
  have hlen := putL_len name (PyData.keyHash w.params name) (.str name s.toks) v es
  refine wpAny_bind (wpAny_lookBehind D' (pastItsLine_dict (by rw [List.size_toArray, sizeLine_eq]; omega)) ?_)
  exact wpAny_pure h
theorem x_osa (XK : ∀ a o, K.lookup a = some o → P a o) (CK : ExcCls K) {k : Nat} (x : ExcNew P s.heap e k) (hk : k ≤ 9) {name : Str} {tk : Tok} {v : Value} {R : Result → Shared → Prop} (hn : findIn K (.ref 45) name = some none) (hq : ∀ h' tk', ExcNew P h' e (k + 1) → R (.ok (.ret .none)) { s with heap := h', toks := tk' }) :
    codeAny (model prog w) A (.call (.builtin "object.__setattr__") ⟨[.ref e, .str name tk, v], []⟩) R s := by
  obtain ⟨nm, q, N, bs, sn, sub, ab, col, dd, k0, k1, k2, k3, k5, hC⟩ := CK.obj
  have XS := x.keepK XK
  obtain ⟨t, dx, he, hd⟩ := x.obj
  have hc : clsIn K 45 = some { name := nm, bases := bs, mro := .ref 45 :: .ref 32 :: excTail, ns := N, qualname := q, hasDict := true, slotNames := sn, subclasses := sub, abstract := ab, collection := col } := by unfold clsIn; rw [hC]
  have I : Looks (model prog w) s.heap (typeOf (.ref e)) (.ref 45) := (Looks.ld he).andThen .now
  have sub' : Looks (model prog w) s.heap (isInstance (.ref e) (.type "object")) true := I.andThen (looks_mroIn XS (by unfold mroIn; rw [hc]; rfl))
  have SF := PySem.F.store_object
  refine codeAny_call_builtin SF.slot.plain SF.entry (@check_slot (model prog w) _ _ s "object.__setattr__" "object" "__setattr__" (.ref e) [.str name tk, v] [] _ SF.kind SF.split sub' (SF.args (.ref e) (.str name tk) v) ?_)
  have hm : Looks (model prog w) s.heap (mroOf (.ref 45)) (.ref 45 :: .ref 32 :: excTail) := (looks_clsIn XS hc).andThen .now
  rw [osa_eq, refuse_eq]
  refine wpAny_bind (wpAny_bind (I.here (wpAny_bind (hm.here ?_))))
  rw [refuse_exc]
  refine wpAny_pure (wpAny_bind (I.here (wpAny_bind ((looks_findIn XS hn).here (wpAny_bind (wpAny_pure ?_))))))
  have hnew : ∀ b o, P b o → b ≠ e := fun b o hb q => x.new o (q ▸ hb)
  have fresh : ∀ hh : Heap, (∀ b o, P b o → hh.get? b = some o) → ∀ o, ¬ P hh.objs.size o := fun hh k o z => absurd (Heap.lt_size (k _ _ z)) (Nat.lt_irrefl _)
  obtain ⟨hh, g, d, tks, os⟩ := s
  refine wpAny_bind (wpAny_pure (wpAny_bind (wpAny_bind (wpAny_loadPart he (wpAny_bind ((looks_clsIn XS hc).here ?_))))))
  dsimp only
  cases dx with
  | some d' =>
    obtain ⟨h1, h2, es, n, h3, h4, h5⟩ := hd
    refine wpAny_pure (a := some d') ?_
    refine x_intoDict (s := ⟨hh, g, d, tks, os⟩) h3 (by omega) h5 ?_
    refine hq _ _ ⟨fun b o hb => ?_, x.new, t, some d', ?_, h1, h2, putL name (PyData.keyHash w.params name) (.str name tks) v es, putN name es n, ?_, ?_, putL_keys h5⟩
    · rw [Heap.get?_update_other _ _ (fun q => h2 o (by rw [q]; exact hb))]
      exact x.keep b o hb
    · rw [Heap.get?_update_other _ _ h1]
      exact he
    · rw [← putName_dict]
      exact Heap.get?_update_self _ h3 (by rw [putName_dict]; rfl)
    · have := putL_len name (PyData.keyHash w.params name) (.str name tks) v es
      omega
  | none =>
    have he' : (hh.push emptyDict).get? e = some { cls := .ref 45, dict := none, data := .fields #[.ref t, .none, .none, .none, .bool false, .none] } := Heap.get?_push_of_some _ he
    have hd' : hh.objs.size ≠ e := fun q => absurd (Heap.lt_size he) (by rw [← q]; exact Nat.lt_irrefl _)
    have D0 : ((hh.push emptyDict).update e fun o => { o with dict := some hh.objs.size }).get? hh.objs.size = some (dictOf [] 0) := by
      rw [Heap.get?_update_other _ _ (Ne.symm hd')]
      exact Heap.get?_push_at rfl rfl
    have e1 := Heap.get?_update_self (fun o : Obj => { o with dict := some hh.objs.size }) he' rfl
    have hf := fresh hh x.keep
    have keep1 : ∀ b o, P b o → ((hh.push emptyDict).update e fun o => { o with dict := some hh.objs.size }).get? b = some o := fun b o hb => by
      rw [Heap.get?_update_other _ _ (Ne.symm (hnew b o hb))]
      exact Heap.get?_push_of_some _ (x.keep b o hb)
    show wpAny _ _ ((alloc emptyDict >>= fun d => PySem.update e (fun o => { o with dict := some d }) >>= fun z_ => pure (some d)) >>= _) _ _ _
    refine wpAny_bind (wpAny_bind (wpAny_alloc (wpAny_bind (wpAny_update he' (wpAny_pure ?_)))))
    refine wpAny_pure (a := some hh.objs.size) ?_
    refine x_intoDict (s := ⟨(hh.push emptyDict).update e fun o => { o with dict := some hh.objs.size }, g, d, tks, os⟩) D0 (by simp) (fun y hy => nomatch hy) ?_
    refine hq _ _ ⟨fun b o hb => ?_, x.new, t, some hh.objs.size, ?_, hd', hf, putL name (PyData.keyHash w.params name) (.str name tks) v [], putN name [] 0, ?_, ?_, putL_keys fun y hy => nomatch hy⟩
    · rw [Heap.get?_update_other _ _ (fun q => hf o (by rw [q]; exact hb))]
      exact keep1 b o hb
    · rw [Heap.get?_update_other _ _ hd']
      exact e1
    · rw [← putName_dict]
      exact Heap.get?_update_self _ D0 (by rw [putName_dict]; rfl)
    · have := putL_len name (PyData.keyHash w.params name) (.str name tks) v []
      simp only [List.length_nil] at this
      omega
theorem x_setAttr (XK : ∀ a o, K.lookup a = some o → P a o) (CK : ExcCls K) {k : Nat} (x : ExcNew P s.heap e k) (hk : k ≤ 9) {name : Str} {v : Value} {Q : Unit → Shared → Prop} (hn : findIn K (.ref 45) name = some none) (hq : ∀ h' tk', ExcNew P h' e (k + 1) → Q () { s with heap := h', toks := tk' }) :
    wpAny (model prog w) A (setAttr (.ref e) name v) Q E s := by
  have XS := x.keepK XK
  obtain ⟨t, dx, he, hd⟩ := id x.obj
  have I : Looks (model prog w) s.heap (typeOf (.ref e)) (.ref 45) := (Looks.ld he).andThen .now
  refine wpAny_bind (wpAny_mkText (wpAny_bind (wpAny_bind (wpAny_bind (I _ _ _ _ (fun z_ z_ e => e) (looks_findIn XS CK.sa _ _ _ _ (fun z_ z_ e => e) (wpAny_holding ?_)))))))
  rw [PySem.F.store_object.slot.bind]
  refine wpAny_bind (wpAny_pure (wpAny_bind (wpAny_call (x_osa (s := { s with toks := s.toks + 1 }) XK CK x hk hn fun h' tk' x' => ?_))))
  exact wpAny_pure (wpAny_pure (hq h' tk' x'))
end
end Mine
namespace Mine
@[reducible] noncomputable def nSelf : Str := ("self" : Str)
@[reducible] noncomputable def nMsg : Str := ("message" : Str)
@[reducible] noncomputable def nSpot : Str := ("spot" : Str)
@[reducible] noncomputable def nExc : Str := ("Exception" : Str)
@[reducible] noncomputable def names29 : Names := [(nSelf, .local), (nMsg, .local), (nSpot, .local), (nExc, .globalImplicit)]
inductive ExcIt (K : Frag) : Prop
  | mk (o : Obj) (fd : FuncData) (p1 : Pos) (p2 : Pos) (p3 : Pos) (p4 : Pos) (p5 : Pos) (p6 : Pos) (q1 : Pos) (q2 : Pos) (q3 : Pos) (q4 : Pos) (u1 : Pos) (u2 : Pos) (u3 : Pos) (u4 : Pos)
    (h0 : K.lookup 29 = some o)
    (h1 : o.data = .func fd)
    (h2 : fd.scope.names = names29)
    (h3 : fd.scope.kind = .function)
    (h4 : fd.scope.isCoroutine = false)
    (h5 : fd.scope.isGenerator = false)
    (g1 : fd.body = .stmts [.Expr (.Call (.Attribute (.Name nExc p1) "__init__" p2) [.Name nSelf p3, .Name nMsg p4] [] p5) p6, .Assign [.Attribute (.Name nSelf q1) nMsg q2] (.Name nMsg q3) q4, .Assign [.Attribute (.Name nSelf u1) nSpot u2] (.Name nSpot u3) u4])
    (h6 : (p2.endLine == p5.line) = true)
    (g2 : codeIn K fd.code fd.qualname = true)
    (h7 : fd.globals = mainGlobals)
    (h8 : fd.builtins = builtinsNs)
    (h9 : fd.closure = [])
    (h10 : ∀ (s : Shared) (v1 v2 : Value), K.In s.heap → BindsTo s fd ⟨[v1, v2], []⟩ [(nSelf, v1), (nMsg, v2), (nSpot, .none)])
structure ExcFn (K : Frag) : Prop where
  it : ExcIt K
section
variable {prog : Program} {w : World} {A : Around} {E : Value → Shared → Prop} {s : Shared} {K : Frag} {P : Addr → Obj → Prop} {e : Addr}
theorem x_init (CK : ExcCls K) (FK : ExcFn K) {mg mb : Str → Option Value} (XK : ∀ a o, K.lookup a = some o → P a o) (hG : ∀ h : Heap, (∀ b o, P b o → h.get? b = some o) → h.Ns mainGlobals mg ∧ h.Ns builtinsNs mb ∧ h.NoLimit) (g1 : mg nExc = none) (g2 : mb nExc = some (.type "Exception"))
    (xk : ∀ b o, P b o → s.heap.get? b = some o) (xn : ∀ o, ¬ P e o) {t : Addr} (xe : s.heap.get? e = some { cls := .ref 45, data := .fields #[.ref t, .none, .none, .none, .bool false, .none] }) (hd : A.depth < recursionLimit) {v : Value} {R : Result → Shared → Prop} (hq : ∀ h' tk', ExcNew P h' e 2 → R (.ok (.ret .none)) { s with heap := h', toks := tk' }) :
    codeAny (model prog w) A (.call (.ref 29) ⟨[.ref e, v], []⟩) R s := by
  obtain ⟨o, fd, p1, p2, p3, p4, p5, p6, q1, q2, q3, q4, u1, u2, u3, u4, ho, hfd, en, ek, eco, eg, eb, el, ecd, egl, ebi, ecl, ebind⟩ := FK.it
  have XS : K.In s.heap := fun a o h => xk a o (XK a o h)
  refine codeAny_call_function hd (XS _ _ ho) hfd eco eg eb (codeRec_of XS ecd) ?_
  refine ebind s (.ref e) v XS _ _ _ _ ?_
  rw [ecl]
  refine wpAny_newFunctionEnv_cells ek (fun x hx => ?_) (fun env eenv s1 h1 => ?_)
  · rw [en]
    simp only [List.mem_cons, List.not_mem_nil, or_false] at hx
    clear CK FK XK XS eb ebi ebind ecd ecl eco eg egl ek el en g1 g2 hG hd hfd ho hq mb mg o p1 p2 p3 p4 p5 p6 q1 q2 q3 q4 u1 u2 u3 u4 xe xk xn
    rcases hx with rfl | rfl | rfl
    · exact .inl (show names29.lookup nSelf = some .local by decide +kernel)
    · exact .inl (show names29.lookup nMsg = some .local by decide +kernel)
    · exact .inl (show names29.lookup nSpot = some .local by decide +kernel)
  have esc : env.scope.names = names29 := by rw [eenv]; exact en
  have ekd : env.scope.kind = .function := by rw [eenv]; exact ek
  have eG : env.globals = mainGlobals := by rw [eenv]; exact egl
  have eB : env.builtins = builtinsNs := by rw [eenv]; exact ebi
  have kind : ∀ y, env.kindOf y = names29.lookup y := fun y => by rw [← esc]; rfl
  have I := h1.toInCall
  clear FK XS eb ebi ebind ecd ecl eco eenv eg egl ek en esc hd hfd ho
  have q_ := I.same
  clear fd
  obtain ⟨hh1, tk1, rfl⟩ := q_
  have keep1 : ∀ b o, P b o → hh1.get? b = some o := fun b o h => I.keep _ _ (xk b o h)
  refine ⟨(hG _ keep1).2.2, ?_⟩
  let P' : Addr → Obj → Prop := fun b o => b ≠ e ∧ hh1.get? b = some o
  have hPe : ∀ b o, P b o → b ≠ e := fun b o hb q => xn o (q ▸ hb)
  have XK' : ∀ a o, K.lookup a = some o → P' a o := fun a o h => ⟨hPe _ _ (XK a o h), keep1 _ _ (XK a o h)⟩
  have up : ∀ {h' k}, ExcNew P' h' e k → ExcNew P h' e k := fun {h' k} y => ⟨fun b o hb => y.keep b o ⟨hPe b o hb, keep1 b o hb⟩, xn, by
    clear CK I XK XK' eB eG ekd el g1 g2 hG hPe hq kind mb mg p1 p2 p3 p4 p5 p6 q1 q2 q3 q4 u1 u2 u3 u4 xe xk xn
    obtain ⟨t, dd, h1, h2⟩ := y.obj
    refine ⟨t, dd, h1, ?_⟩
    clear R h1 t y
    cases dd with
    | none => trivial
    | some d =>
      clear h1 t tk1 v
      obtain ⟨a1, a2, a3⟩ := h2
      exact ⟨a1, fun o hb => a2 o ⟨a1, keep1 _ _ hb⟩, a3⟩⟩
  have x1 : ExcNew P' hh1 e 0 := ⟨fun b o h => h.2, fun o h => h.1 rfl, t, none, I.keep _ _ xe, trivial⟩
  have hLe : env.locals ≠ e := fun q => absurd (Heap.lt_size xe) (by rw [← q]; exact Nat.not_lt.mpr I.fresh)
  clear XK h1 hPe keep1 xe xk xn
  obtain ⟨oL, esL, nL, eL, rL⟩ := I.ns
  have ns : ∀ {h' k}, ExcNew P' h' e k → h'.Ns env.locals _ := fun {h' k} y => ⟨oL, esL, nL, y.keep _ _ ⟨hLe, eL⟩, rL⟩
  have gg : ∀ {h' k}, ExcNew P' h' e k → h'.Ns env.globals mg ∧ h'.Ns env.builtins mb := fun {h' k} y => by
    clear CK I XK' eL ekd el g1 g2 hLe hq kind ns o p1 p2 p3 p4 p5 p6 q1 q2 q3 q4 rL t tk1 u1 u2 u3 u4 v x1
    obtain ⟨a1, a2, _⟩ := hG h' (up y).keep
    rw [eG, eB]
    exact ⟨a1, a2⟩
  have l1 : bindL env.kindOf [(nSelf, .ref e), (nMsg, v), (nSpot, .none)] (fun z_ => none) nSelf = some (.ref e) := by
    simp only [bindL, kind, show names29.lookup nSelf = some .local by decide +kernel, show names29.lookup nMsg = some .local by decide +kernel, show names29.lookup nSpot = some .local by decide +kernel, if_true, if_neg (show ¬ nSelf = nSpot by decide +kernel), if_neg (show ¬ nSelf = nMsg by decide +kernel)]
  have l2 : bindL env.kindOf [(nSelf, .ref e), (nMsg, v), (nSpot, .none)] (fun z_ => none) nMsg = some v := by
    simp only [bindL, kind, show names29.lookup nSelf = some .local by decide +kernel, show names29.lookup nMsg = some .local by decide +kernel, show names29.lookup nSpot = some .local by decide +kernel, if_true, if_neg (show ¬ nMsg = nSpot by decide +kernel)]
  have l3 : bindL env.kindOf [(nSelf, .ref e), (nMsg, v), (nSpot, .none)] (fun z_ => none) nSpot = some .none := by
    simp only [bindL, kind, show names29.lookup nSelf = some .local by decide +kernel, show names29.lookup nMsg = some .local by decide +kernel, show names29.lookup nSpot = some .local by decide +kernel, if_true]
  have inter : interactive env = false := by unfold interactive; rw [ekd]; rfl
  have s1ns : ∀ {h' : Heap} {k : Nat} {tk : Nat} {y : Str} {u : Value} {p : Pos} {A' : Around} {E' : Value → Shared → Prop} {Q' : Value → Shared → Prop}, ExcNew P' h' e k → names29.lookup y = some .local → (y == ("__debug__" : Str)) = false → bindL env.kindOf [(nSelf, .ref e), (nMsg, v), (nSpot, .none)] (fun z_ => none) y = some u →
      Q' u { s with heap := h', toks := tk } → wpAny (model prog w) A' (eval (.Name y p) env) Q' E' { s with heap := h', toks := tk } := fun z hk hb hv hq => wpAny_Name (wpAny_loadName_local ekd ((kind _).trans hk) (ns z) hv hq) hb
  refine codeAny_func (wpAny_execs_cons (wpAny_Expr_any (call_attr rfl el (show 2 ≤ 9 by decide) rfl ?_) inter (swaps_no rfl _ _ _)))
  refine Calls.Name_function_global ekd ((kind _).trans (by decide +kernel)) (Calls.loadGlobal_builtin (gg x1).1 g1 (gg x1).2 g2 fun pl => ?_) (by decide +kernel)
  have XK1 : K.In hh1 := fun a o h => (XK' a o h).2
  refine method_type_mine (s := { s with heap := hh1, toks := tk1 }) XK1 rfl (by decide +kernel) CK.base rfl ?_
  refine callWith_gen (star_plain rfl _) (wpAny_items_cons (s1ns x1 (by decide +kernel) (by decide +kernel) l1 (wpAny_items_cons (s1ns x1 (by decide +kernel) (by decide +kernel) l2 (wpAny_items_nil ?_)) rfl)) rfl)
  refine ⟨.builtin, ?_⟩
  refine x_baseInit (s := { s with heap := hh1, toks := tk1 + 1 }) XK' CK x1 fun h2 x2 => ?_
  refine wpAny_execs_cons ?_
  refine Assign_one (s1ns x2 (by decide +kernel) (by decide +kernel) l2 ?_) rfl (swaps_no rfl _ _ _) rfl
  show wpAny _ _ (do let ov ← holding [v] (eval (.Name nSelf q1) env); standAt q2.atName; holding [v, ov] (setAttr ov nMsg v); release [v, ov] []) _ _ _
  refine wpAny_bind (wpAny_holding (s1ns x2 (by decide +kernel) (by decide +kernel) l1 ?_))
  refine wpAny_bind (wpAny_standAt (wpAny_bind (wpAny_holding (x_setAttr (s := { s with heap := h2, toks := tk1 + 1 }) XK' CK x2 (by decide) CK.m1 fun h3 tk3 x3 => ?_))))
  refine wpAny_release ?_
  refine wpAny_execs_cons ?_
  refine Assign_one (s1ns x3 (by decide +kernel) (by decide +kernel) l3 ?_) rfl (swaps_no rfl _ _ _) rfl
  show wpAny _ _ (do let ov ← holding [Value.none] (eval (.Name nSelf u1) env); standAt u2.atName; holding [Value.none, ov] (setAttr ov nSpot Value.none); release [Value.none, ov] []) _ _ _
  refine wpAny_bind (wpAny_holding (s1ns x3 (by decide +kernel) (by decide +kernel) l1 ?_))
  refine wpAny_bind (wpAny_standAt (wpAny_bind (wpAny_holding (x_setAttr (s := { s with heap := h3, toks := tk3 }) XK' CK x3 (by decide) CK.m2 fun h4 tk4 x4 => ?_))))
  refine wpAny_release ?_
  refine wpAny_execs_nil ?_
  exact hq h4 tk4 (up x4)
end
end Mine
namespace Mine
/-! ## raise and try -/
@[reducible] noncomputable def nMF : Str := ("MacroFault" : Str)
structure ExcOK (X : Cx) : Prop where
  cls : ExcCls X.K
  fn : ExcFn X.K
  g1 : X.mg nMF = some (.ref 45)
  g2 : X.mg nExc = none
  g3 : X.mb nExc = some (.type "Exception")
section
variable {prog : Program} {w : World} {M : Model} {A : Around} {E : Value → Shared → Prop} {s : Shared} {K : Frag} {P : Addr → Obj → Prop} {e : Addr} {env : Env}
theorem x_raiseStmt {x : Sem Value} {Q : Flow → Shared → Prop} (CK : ExcCls K) (hh : A.handled = none)
    (h : wpAny M A x (fun v s₁ => ∃ e k, ∃ P : Addr → Obj → Prop, v = .ref e ∧ (∀ a o, K.lookup a = some o → P a o) ∧ ExcNew P s₁.heap e k ∧ E (.ref e) s₁) E s) : wpAny M A (raiseStmt env (some x) none) Q E s := by
  obtain ⟨nm, q, N, bs, sn, sub, ab, col, dd, k0, k1, k2, k3, k5, hC⟩ := CK.obj
  have hcB : (Value.ref 45 :: .ref 32 :: excTail).contains (.type "BaseException") = true := by rw [List.contains_cons, List.contains_cons, show excTail.contains (.type "BaseException") = true by decide +kernel, Bool.or_true, Bool.or_true]
  unfold raiseStmt
  refine wpAny_bind (wpAny_mono h (fun v s₁ h₁ => ?_) fun z_ z_ x => x)
  clear CK h x
  obtain ⟨e, k, P, rfl, XK, y, hE⟩ := h₁
  have hC := y.keepK XK _ _ hC
  clear XK
  obtain ⟨t, dx, he, hd⟩ := y.obj
  clear hd y
  obtain ⟨hp, g, d, tk, os⟩ := s₁
  repeat (first | with_reducible refine wpAny_loadPart_at he ?_ | with_reducible refine wpAny_loadPart_at hC ?_ | (with_reducible refine wpAny_isSubtype_exc hC ?_; rw [hcB]) | wp_step)
  exact wpAny_raiseNew_none hh hE
end
section
variable {X : Cx} {r np : Nat} {env : Env} {names : Names} {Xc : Prop} {A : Around} {as : List Addr} {s s1 : Shared} {c : AS}
theorem thrown_new (G : X.Good) (st : St X env names c as s.heap) {e : Addr} {k : Nat} {h' : Heap} {tk : Nat} (y : ExcNew (fun b o => s.heap.get? b = some o) h' e k) : ThrownAt X env A as s e { s with heap := h', toks := tk } := by
  have hn : s.heap.get? e = none := by
    clear G st tk
    cases q : s.heap.get? e with
    | none => rfl
    | some o => exact absurd q (y.new o)
  clear G
  obtain ⟨m, F⟩ := st.frame
  obtain ⟨t, dd, he, _⟩ := y.obj
  refine ⟨st.base.keep y.keep, .all y.keep, ⟨m, F.ns.keeps y.keep⟩, ⟨_, _, he, rfl, rfl, by simp, .inl rfl⟩, hn, fun T ⟨oe, vs, h1, h2, h3⟩ => ?_, fun b hb => ?_, ⟨h', tk, rfl⟩⟩
  · dsimp only at h1
    rw [he] at h1
    clear F he hn m st y
    cases h1
    cases h2
    simp at h3
  · clear F he hn m st t
    cases q : s.heap.get? b with
    | none => rfl
    | some o =>
      have := y.keep b o q
      dsimp only at hb
      rw [hb] at this
      clear hb q tk y
      cases this
theorem semS_rai (G : X.Good) (XO : ExcOK X) (E : EnvOK env names) {e : Expr} {p cp pos : Pos} (hs : isStar e = false) (hl : names.lookup nMF = some .globalImplicit) {Q : Fl → AS → Prop} (h : SemE X r env names Xc (eval e env) c fun z_ z_ => Xc) :
    SemS X r np env names Xc (exec (.Raise (some (.Call (.Name nMF p) [e] [] cp)) none pos) env) c Q := by
  intro A as s K Ex ac st hn hf hk hx
  rw [arm_exec_Raise]
  refine wpAny_bind (wpAny_standAt ?_)
  show wpAny _ _ (raiseStmt env (some (do let v ← eval (.Call (.Name nMF p) [e] [] cp) env; standAt pos; pure v)) none) _ _ _
  refine x_raiseStmt XO.cls ac.handled ?_
  have g1 : s.heap.Ns env.globals X.mg := by rw [E.globals]; exact G.g.keeps st.base.1
  refine wpAny_bind (wpAny_Call_ofName (Calls.Name_function_global E.kind ((kind_of E nMF).trans hl) (Calls.loadGlobal_global g1 XO.g1 ?_) (by decide +kernel)))
  refine callWith_gen (star_plain (by simp [hs]) cp) (wpAny_items_cons (h.start (.refl ac st) hn trivial (fun v m c1 as1 s1 n1 n1' r1 q1 => wpAny_items_nil ?_) hx) (starEach_cons hs))
  have XK := n1.st.base.keepK G
  refine ⟨.K XK XO.cls.keep, ?_⟩
  rw [List.nil_append]
  clear E cp g1 h hf hk hl hn hs n1' p r1 st
  obtain ⟨nm, q, N, bs, sn, sub, ab, col, dd, k0, k1, k2, k3, k5, hC⟩ := XO.cls.obj
  clear K Q m
  obtain ⟨hh, g, d, tk, os⟩ := s1
  refine x_call XK (XK _ _ hC) XO.cls.init XO.cls.fn (show 1 ≤ sizeLine by decide +kernel) fun h' e hm => ?_
  clear hC k0 k1 k2 k3 k5 nm sn sub
  obtain ⟨t, ht, _, _⟩ := hm.there
  refine wpAny_call ?_
  refine x_init (s := ⟨h', g, d, tk, os⟩) (P := fun b o => hh.get? b = some o) XO.cls XO.fn (fun a o q => XK a o q) (fun h'' k => ⟨G.g.keeps fun b o q => k b o (n1.st.base.1 b o q), G.b.keeps fun b o q => k b o (n1.st.base.1 b o q), G.nolimit.keeps fun b o q => k b o (n1.st.base.1 b o q)⟩) XO.g2 XO.g3 hm.keeps (fun o q => by rw [hm.new] at q; cases q) ht ?_ fun h'' tk' y => ?_
  · show A.depth + 1 < recursionLimit
    have := ac.depth
    omega
  · refine ⟨rfl, wpAny_bind (wpAny_standAt (wpAny_pure ⟨e, 2, fun b o => hh.get? b = some o, rfl, fun a o q => XK a o q, y, ?_⟩))⟩
    exact hx q1 e _ ((thrown_new (s := ⟨hh, g, d, tk, os⟩) G n1.st y).afterS n1)
end
end Mine
namespace Mine
section
variable {X : Cx} {r np : Nat} {env : Env} {names : Names} {Xc : Prop} {A : Around} {as : List Addr} {s s1 : Shared} {c : AS}
/-- what is left when an exception has been caught -/
theorem caught (ac : ACond X A r as s.heap) (G : X.Good) (st : St X env names c as s.heap) {e : Addr} (t : ThrownAt X env A as s e s1) : AtS X r 0 env names A as s ⟨List.replicate c.ρ.length none, []⟩ [] s1 := by
  obtain ⟨l, hl, _⟩ := ac.frames
  obtain ⟨m0, F⟩ := st.frame
  obtain ⟨m, hm⟩ := t.fr
  refine ⟨⟨ac.handled, ac.depth, ac.units, ⟨l, hl, t.frames G ac st hl⟩, fun b z_ => by simp, ac.high⟩, ⟨t.base, ⟨m, ⟨hm, F.high, by simp, by rw [List.length_replicate]; exact F.len, fun i mv x k h1 z_ => ?_⟩⟩, ⟨rfl, List.nodup_nil, fun i o h => ?_⟩⟩, t.kp, fun x hx => (nomatch hx), rfl, t.there, t.same⟩
  · rw [List.getElem?_replicate] at h1
    split at h1 <;> cases h1
  · simp at h
theorem flight' (G : X.Good) (ac : ACond X A r as s.heap) (st : St X env names c as s.heap) (hf : FrTop A env) {e : Addr} (t : ThrownAt X env A as s e s1) {v0 : Value} (tb : TbHas s1.heap e v0) {Q : Unit → Shared → Prop} {E : Value → Shared → Prop} {M : Model} {A' : Around}
    (h : ∀ s2, ThrownAt X env A as s e s2 → TbHas s2.heap e .none → ExcIn s2.heap e none → Q () s2) : wpAny M A' (setFlight (.ref e) none) Q E s1 := by
  obtain ⟨oe, vs, T, oT, ts, h1, h3, w1, w2, w3, w4, wf, w5⟩ := tb
  unfold setFlight
  refine wpAny_bind (wpAny_field h1 h3 w1 ?_)
  rw [if_pos (show (Value.ref T != Value.none) = true from by simp)]
  refine wpAny_setField w3 w4 (Array.getElem?_eq_some_iff.mp w5).1 ?_
  clear A' E M
  obtain ⟨t', tb', h0⟩ := t.mark G ac st hf h1 h3 w1 w2 w3 w4 wf w5 (v := .none) (.inl rfl)
  exact h _ t' tb' (h0 rfl)
theorem semS_try (G : X.Good) (XO : ExcOK X) (E : EnvOK env names) {body : List Stmt} {b : Bool} {p1 p2 p3 p4 : Pos} {k} {pos : Pos} (hl : names.lookup nMF = some .globalImplicit) {Q : Fl → AS → Prop} (h0 : np = 0)
    (h : SemS X r np env names (Q (.ret (.p (.con (.bool b)))) ⟨List.replicate c.ρ.length none, []⟩) (execs body env) c Q) :
    SemS X r np env names Xc (exec (.Try body [.ExceptHandler (some (.Name nMF p1)) none [.Return (some (.Constant (.bool b) k p2)) p3] p4] [] [] pos) env) c Q := by
  subst h0
  intro A as s K Ex ac st hn hf hk hx
  refine wpAny_Try_except (h.next (.refl ac st) hn hf (fun f fl c1 as1 s1 n1 hr hq => ?_) fun hX e s1 t => ?_)
  · clear E G XO ac h hf hl hn hx k p1 p2 p3 p4 pos st
    cases f with
    | next =>
      clear Xc b body c
      cases fl with
      | nxt => exact wpAny_execs_nil (hk .next .nxt c1 as1 s1 n1 hr hq)
      | cnt => exact hr.elim
      | ret m => exact hr.elim
    | cont => exact hk _ _ c1 as1 s1 n1 hr hq
    | ret v => exact hk _ _ c1 as1 s1 n1 hr hq
    | brk => exact hk _ _ c1 as1 s1 n1 hr hq
  · refine noted G ac st hf t fun s2 t2 tb => flight' G ac st hf t2 tb fun s3 t3 tb3 x3 => ?_
    refine wpAny_handleBy_cons (codeAny_handlers_test ?_) (by intro q; cases q)
    have g1 : s3.heap.Ns env.globals X.mg := by rw [E.globals]; exact G.g.keeps t3.base.1
    refine Calls.Name_function_global E.kind ((kind_of E nMF).trans hl) (Calls.loadGlobal_global g1 XO.g1 ?_) (by decide +kernel)
    clear E g1 hl hn hx p1 pos t t2 tb
    obtain ⟨nm, q, N, bs, sn, sub, ab, col, dd, k0, k1, k2, k3, k5, hC⟩ := XO.cls.obj
    have hC := t3.base.keepK G _ _ hC
    clear XO Xc s2
    obtain ⟨oe, vs, q1, q2, q3, q4, q5⟩ := x3
    clear q3 q4 q5 vs
    obtain ⟨hh, g, d, tk, os⟩ := s3
    refine wpAny_excMatches_sub_self hC q1 q2 (by decide +kernel) ?_
    show codeAny _ _ (.handlers (.ref e) [.ExceptHandler none none [.Return (some (.Constant (.bool b) k p2)) p3] p4] env) _ _
    refine codeAny_handlers_suite ?_
    refine flight' (s1 := ⟨hh, g, d, tk, os⟩) G ac st hf t3 tb3 fun s4 t4 z_ z_ => ?_
    refine wpAny_execs_cons (wpAny_Return_some (wpAny_Constant_bool ?_))
    exact hk (.ret (.bool b)) (.ret (.p (.con (.bool b)))) _ [] s4 (caught ac G st t4) (RepM.bool (X := X) (as := []) (h := s4.heap)) hX
end
end Mine
namespace Mine
/-! ## soundness: statements -/
noncomputable def SndS (X : Cx) (Sp : Spec) (n : Nat) : Prop := ∀ st ns r np env Xc c Q, EnvOK env ns → vcS Sp r X.ns np (erS ns n st) Xc c Q → SemS X r np env ns Xc (exec st env) c Q
section
variable {X : Cx} {Sp : Spec} {n r np : Nat} {env : Env} {ns : Names} {Xc : Prop} {c : AS}
theorem B_nil {Q : Fl → AS → Prop} : vcB Sp r X.ns np [] Xc c Q = Q .nxt c := rfl
theorem B_cons {s : MS} {rest : List MS} {Q : Fl → AS → Prop} : vcB Sp r X.ns np (s :: rest) Xc c Q = vcS Sp r X.ns np s Xc c (thenS (fun c₁ => vcB Sp r X.ns np rest Xc c₁ Q) Q) := rfl
theorem S_bad {Q : Fl → AS → Prop} : vcS Sp r X.ns np .bad Xc c Q = False := rfl
theorem sndB (H : SndS X Sp n) (E : EnvOK env ns) : ∀ (b : List Stmt) {np : Nat} {Xc : Prop} {c : AS} {Q : Fl → AS → Prop}, vcB Sp r X.ns np (b.map (erS ns n)) Xc c Q → SemS X r np env ns Xc (execs b env) c Q := fun y1_ y2_ y3_ y4_ y5_ y6_ => match y1_, y2_, y3_, y4_, y5_, y6_ with
  | [], np, Xc, c, Q, h => semB_nil (by rw [List.map_nil, B_nil] at h; exact h)
  | st :: b, np, Xc, c, Q, h => by
    rw [List.map_cons, B_cons] at h
    exact semB_cons (H st ns r np env Xc c _ E h) fun c1 h' => sndB H E b h'
theorem local_of {i : Nat} {x : Str} (h : lvIdx ns x = some i) (hl : ns[i]?.any (·.2 == .local) = true) : ns[i]? = some (x, .local) := localAt h hl
theorem SemS.monoX {X : Cx} {r np : Nat} {env : Env} {names : Names} {Xc Xc' : Prop} {t : Sem Flow} {c : AS} {Q : Fl → AS → Prop} (h : SemS X r np env names Xc t c Q) (i : Xc → Xc') : SemS X r np env names Xc' t c Q :=
  fun A as s K E ac st hn hf hk hx => h A as s K E ac st hn hf hk fun x => hx (i x)
section
variable {rs : List Int} {Q : Fl → AS → Prop}
theorem iteS_bad {b : Bool} {e : MS} (h : vcS Sp r rs np (if b then .bad else e) Xc c Q) : b = false ∧ vcS Sp r rs np e Xc c Q := by
  cases b with
  | true => exact h.elim
  | false => exact ⟨rfl, h⟩
theorem iteS_ok {b : Bool} {e : MS} (h : vcS Sp r rs np (if b then e else .bad) Xc c Q) : b = true ∧ vcS Sp r rs np e Xc c Q := by
  cases b with
  | true => exact ⟨rfl, h⟩
  | false => exact h.elim
theorem asgOf_inv {v : ME} {o : Option Nat} (h : vcS Sp r rs np (asgOf v o) Xc c Q) : ∃ i, o = some i ∧ vcS Sp r rs np (.asg i v) Xc c Q := by
  cases o with
  | none => exact h.elim
  | some i => exact ⟨i, rfl, h⟩
theorem setAOf_inv {p v : ME} {o : Option Nat} (h : vcS Sp r rs np (setAOf p v o) Xc c Q) : ∃ k, o = some k ∧ vcS Sp r rs np (.setA p k v) Xc c Q := by
  cases o with
  | none => exact h.elim
  | some i => exact ⟨i, rfl, h⟩
theorem asgTOf_inv {v : ME} {ok : Bool} {o : Option (List Nat)} (h : vcS Sp r rs np (asgTOf v ok o) Xc c Q) : ∃ is, o = some is ∧ ok = true ∧ vcS Sp r rs np (.asgT is v) Xc c Q := by
  cases o with
  | none => exact h.elim
  | some is =>
    obtain ⟨ho, h⟩ := iteS_ok (b := ok) h
    exact ⟨is, rfl, ho, h⟩
end
theorem bindO_inv {α β : Type} {o : Option α} {f : α → Option β} {b : β} (h : bindO o f = some b) : ∃ a, o = some a ∧ f a = some b := by
  cases o with
  | none => cases h
  | some a => exact ⟨a, rfl, h⟩
theorem asName_inv {e : Expr} {x : Str} (h : asName e = some x) : ∃ p, e = .Name x p := by
  cases e with
  | Name y p => cases h; exact ⟨p, rfl⟩
  | _ => cases h
theorem asCall_inv {e f : Expr} {args : List Expr} {kws : List Keyword} (h : asCall e = some (f, args, kws)) : ∃ p, e = .Call f args kws p := by
  cases e with
  | Call f args kws p => cases h; exact ⟨p, rfl⟩
  | _ => cases h
theorem asBool1_inv {e : Expr} {b : Bool} (h : asBool1 e = some b) : ∃ k p, e = .Constant (.bool b) k p := by
  cases e with
  | Constant c k p => cases c <;> cases h <;> exact ⟨k, p, rfl⟩
  | _ => cases h
theorem asRet_inv {s : Stmt} {v : Option Expr} (h : asRet s = some v) : ∃ p, s = .Return v p := by
  cases s with
  | Return v p => cases h; exact ⟨p, rfl⟩
  | _ => cases h
theorem callOne_inv {it e : Expr} {x : Str} (h : callOne it = some (x, e)) : ∃ p1 p2, it = .Call (.Name x p1) [e] [] p2 := by
  obtain ⟨⟨f, args, kws⟩, h1, h2⟩ := bindO_inv h
  clear h
  have q_ := asCall_inv h1
  clear h1
  obtain ⟨p2, rfl⟩ := q_
  rcases args with _ | ⟨a, _ | ⟨b, l⟩⟩
  · cases h2
  · cases kws with
    | nil =>
      obtain ⟨y, h3, h4⟩ := bindO_inv h2
      clear h2
      have q_ := asName_inv h3
      clear h3
      obtain ⟨p1, rfl⟩ := q_
      cases h4
      exact ⟨p1, p2, rfl⟩
    | cons => cases h2
  · cases h2
theorem range_of {it e : Expr} (h : rangeOf ns it = some e) : ∃ p1 p2, it = .Call (.Name ("range" : Str) p1) [e] [] p2 := by
  obtain ⟨⟨x, a⟩, h1, h2⟩ := bindO_inv h
  clear h
  cases hx : x == ("range" : Str) with
  | true =>
    simp only [hx] at h2
    cases h2
    rw [eq_of_beq hx] at h1
    exact callOne_inv h1
  | false =>
    simp only [hx] at h2
    clear h1 hx x
    cases h2
theorem rai_of {exc : Option Expr} {x : Str} {e : Expr} (h : raiOf exc = some (x, e)) : ∃ p cp, exc = some (.Call (.Name x p) [e] [] cp) := by
  obtain ⟨y, h1, h2⟩ := bindO_inv h
  clear h
  have q_ := callOne_inv h2
  clear h2
  obtain ⟨p, cp, rfl⟩ := q_
  exact ⟨p, cp, h1⟩
theorem try_of {hs : List ExceptHandler} {x : Str} {hd : List Stmt} (h : tryOf hs = some (x, hd)) : ∃ p p4, hs = [.ExceptHandler (some (.Name x p)) none hd p4] := by
  rcases hs with _ | ⟨⟨t, nm, hd', p4⟩, _ | ⟨h2, l⟩⟩
  · cases h
  · cases nm with
    | none =>
      obtain ⟨y, h1, h2⟩ := bindO_inv h
      clear h
      obtain ⟨t', h3, h4⟩ := bindO_inv h1
      clear h1
      have q_ := asName_inv h4
      clear h4
      obtain ⟨p, rfl⟩ := q_
      cases h2
      exact ⟨p, p4, by rw [h3]⟩
    | some => cases h
  · cases h
theorem retB_of {b : List Stmt} (h : isRetB b = true) : ∃ v k p2 p3, b = [.Return (some (.Constant (.bool v) k p2)) p3] := by
  rcases b with _ | ⟨s, _ | ⟨s2, l⟩⟩
  · cases h
  · obtain ⟨w, hw⟩ := Option.isSome_iff_exists.mp h
    clear h
    obtain ⟨v, h1, h2⟩ := bindO_inv hw
    clear hw
    obtain ⟨e, h3, h4⟩ := bindO_inv h2
    clear h2
    have q_ := asRet_inv h1
    clear h1
    obtain ⟨p3, rfl⟩ := q_
    have q_ := asBool1_inv h4
    clear h4
    obtain ⟨k, p2, rfl⟩ := q_
    exact ⟨w, k, p2, p3, by rw [h3]⟩
  · cases h
theorem set_bad {it : Expr} (hs : isSet it = true) : er ns n it = .bad := by
  cases it with
  | Set => cases n <;> rfl
  | _ => cases hs
theorem snd_asg (W : Wld X Sp) (E : EnvOK env ns) {t v : Expr} {pos : Pos} {Q : Fl → AS → Prop} (hc : isComp v = false) (h : vcS Sp r X.ns np (erAsg ns (er ns n) v (er ns n v) t) Xc c Q) :
    SemS X r np env ns Xc (exec (.Assign [t] v pos) env) c Q := by
  have HE := (snd W n).E
  obtain ⟨G, GG, CC, SO⟩ := W
  clear GG SO
  cases t with
  | Name x p =>
    clear CC
    obtain ⟨i, hi, h⟩ := asgOf_inv (o := erLoc ns x) h
    exact semS_asg G E hc (erLoc_at hi) (HE v ns r env Xc c _ E h)
  | Tuple ts k p =>
    clear CC
    obtain ⟨is, hi, ho, h⟩ := asgTOf_inv (o := namesOf ns ts) h
    exact semS_asgT G E hc hi ho (HE v ns r env Xc c _ E h)
  | Attribute o a p =>
    obtain ⟨_, h⟩ := iteS_bad (b := isBareCall o) h
    obtain ⟨k, hk, h⟩ := setAOf_inv h
    exact semS_setA G CC hk hc (HE v ns r env Xc c _ E h) (fun m c1 h' => HE o ns r env Xc c1 _ E h') fun m mo c2 h' => h'
  | Subscript o i p =>
    clear CC
    obtain ⟨_, h⟩ := iteS_bad (b := isSlice i) h
    exact semS_setI G hc (HE v ns r env Xc c _ E h) (fun m c1 h' => HE o ns r env Xc c1 _ E h') (fun m mo c2 h' => HE i ns r env Xc c2 _ E h') fun m mo mi c3 h' => h'
  | _ => exact h.elim
theorem snd_for (W : Wld X Sp) (RO : RangeOK X) (H : SndS X Sp n) (E : EnvOK env ns) {x : Str} {p pos : Pos} {it : Expr} {b : List Stmt} {o : Option Nat} {Q : Fl → AS → Prop} (ho : o = erLoc ns x)
    (h : vcS Sp r X.ns np (forOf ns (er ns n) it (b.map (erS ns n)) o) Xc c Q) : SemS X r np env ns Xc (exec (.For (.Name x p) it b [] pos) env) c Q := by
  have HE := (snd W n).E
  obtain ⟨G, GG, CC, SO⟩ := W
  clear CC GG SO
  cases o with
  | none => exact h.elim
  | some i =>
    have hi := erLoc_at ho.symm
    clear ho
    cases hr : rangeOf ns it with
    | none =>
      have h : vcS Sp r X.ns np (.for_ i (er ns n it) (b.map (erS ns n))) Xc c Q := by simpa only [forOf, hr] using h
      by_cases hs : isSet it = true
      · rw [set_bad hs] at h
        exact h.elim
      · exact semS_for (FB := fun np' c Q => vcB Sp r X.ns np' (b.map (erS ns n)) False c Q) G E hi (by simpa using hs) (fun np' c Q h => sndB H E b h) (HE it ns r env Xc c _ E h) fun v c1 h' => h'
    | some e =>
      obtain ⟨p1, p2, rfl⟩ := range_of hr
      have h : vcS Sp r X.ns np (if ns.lookup ("range" : Str) == some .globalImplicit then .forR i (er ns n e) (b.map (erS ns n)) else .bad) Xc c Q := by simpa only [forOf, hr] using h
      clear hr
      obtain ⟨hg, h⟩ := iteS_ok h
      by_cases hs : isStar e = true
      · rw [er_star n hs] at h
        exact h.elim
      · exact semS_forR (FB := fun c Q => vcB Sp r X.ns np (b.map (erS ns n)) False c Q) G RO E hi (eq_of_beq hg) (by simpa using hs) (fun c Q h => sndB H E b h) (HE e ns r env Xc c _ E h) fun v c1 h' => h'
theorem snd_rai (W : Wld X Sp) (XO : ExcOK X) (E : EnvOK env ns) {exc cause : Option Expr} {pos : Pos} {Q : Fl → AS → Prop}
    (h : vcS Sp r X.ns np (erRai ns (er ns n) (raiOf exc) cause.isNone) Xc c Q) : SemS X r np env ns Xc (exec (.Raise exc cause pos) env) c Q := by
  have HE := (snd W n).E
  have G := W.G
  clear W
  rcases cause with _ | cause
  · cases hr : raiOf exc with
    | none =>
      rw [hr] at h
      exact h.elim
    | some q =>
      obtain ⟨x, e⟩ := q
      rw [hr] at h
      have q_ := rai_of hr
      clear hr
      obtain ⟨p, cp, rfl⟩ := q_
      obtain ⟨hc, h1⟩ := iteS_ok (b := x == ("MacroFault" : Str) && ns.lookup x == some .globalImplicit) h
      clear h
      have h := h1
      clear h1
      simp only [Bool.and_eq_true] at hc
      have hf : x = nMF := eq_of_beq hc.1
      subst hf
      by_cases hs : isStar e = true
      · rw [er_star n hs] at h
        exact h.elim
      · exact semS_rai G XO E (by simpa using hs) (eq_of_beq hc.2) (HE e ns r env Xc c _ E h)
  · clear E G HE XO
    cases hr : raiOf exc with
    | none =>
      rw [hr] at h
      exact h.elim
    | some q =>
      rw [hr] at h
      exact h.elim
theorem hd_bool {v : Bool} {k : Nat} {p2 p3 : Pos} {Q : Fl → AS → Prop} (h : vcB Sp r X.ns np (([.Return (some (.Constant (.bool v) k p2)) p3] : List Stmt).map (erS ns n)) Xc c Q) : Q (.ret (mB v)) c := by
  cases n with
  | zero => exact h.elim
  | succ n =>
    cases n with
    | zero => exact h.elim
    | succ n => exact h
theorem snd_try (W : Wld X Sp) (XO : ExcOK X) (H : SndS X Sp n) (E : EnvOK env ns) {b els fin : List Stmt} {hs : List ExceptHandler} {pos : Pos} {Q : Fl → AS → Prop}
    (h : vcS Sp r X.ns np (erTry ns (erS ns n) (b.map (erS ns n)) (els.isEmpty && fin.isEmpty) (tryOf hs)) Xc c Q) : SemS X r np env ns Xc (exec (.Try b hs els fin pos) env) c Q := by
  have G := W.G
  clear W
  cases ht : tryOf hs with
  | none =>
    rw [ht] at h
    exact h.elim
  | some q =>
    obtain ⟨x, hd⟩ := q
    rw [ht] at h
    have q_ := try_of ht
    clear ht
    obtain ⟨p, p4, rfl⟩ := q_
    obtain ⟨hc, hh⟩ := iteS_ok (b := (x == ("MacroFault" : Str) && ns.lookup x == some .globalImplicit) && isRetB hd && (els.isEmpty && fin.isEmpty)) h
    clear h
    simp only [Bool.and_eq_true] at hc
    obtain ⟨⟨⟨h1, h2⟩, h3⟩, h4, h5⟩ := hc
    have hf : x = nMF := eq_of_beq h1
    clear h1
    subst hf
    have h4 := isEmpty_nil h4
    have h5 := isEmpty_nil h5
    subst h4 h5
    clear h4 h5
    have q_ := retB_of h3
    clear h3
    obtain ⟨v, k, p2, p3, rfl⟩ := q_
    obtain ⟨h0, h⟩ := hh
    exact semS_try G XO E (eq_of_beq h2) h0 (SemS.monoX (sndB H E b h) fun hX => (hd_bool (Q := thenH Q) hX : thenH Q (.ret (mB v)) _))
theorem stepS (W : Wld X Sp) (RO : RangeOK X) (XO : ExcOK X) (H : SndS X Sp n) : SndS X Sp (n + 1) := by
  intro st ns r np env Xc c Q E h
  have HE := (snd W n).E
  have HT := (snd W n).T
  cases st with
  | Return v pos =>
    clear H HT RO W XO
    cases v with
    | none => exact h.elim
    | some e => exact semS_ret (HE e ns r env Xc c _ E h)
  | Continue pos => exact semS_cnt h
  | Expr e pos =>
    clear H HT RO W XO
    obtain ⟨hc, h⟩ := iteS_bad (b := isComp e) h
    exact semS_ex E hc (HE e ns r env Xc c _ E h)
  | If t a b pos => exact semS_if (HT t ns r env Xc c _ E h) fun x c1 h' => ⟨fun e => by subst e; exact sndB H E a h', fun e => by subst e; exact sndB H E b h'⟩
  | While t b els pos =>
    clear HE RO XO
    cases els with
    | nil =>
      obtain ⟨Inv, keep, m₀, h0, hs⟩ := h
      exact semS_whl W.G h0 (fun c₀ m hI => HT t ns r env Xc c₀ _ E (hs c₀ m hI)) fun m x c1 h' => ⟨fun e => by subst e; exact sndB H E b h', fun e => by subst e; exact h'⟩
    | cons => exact h.elim
  | Assign ts v pos =>
    clear H HE HT RO XO
    rcases ts with _ | ⟨t, _ | ⟨t2, ts⟩⟩
    · exact h.elim
    · obtain ⟨hc, h⟩ := iteS_bad (b := isComp v) h
      exact snd_asg W E hc h
    · exact h.elim
  | For t it b els pos =>
    clear HE HT XO
    cases t with
    | Name x p =>
      cases els with
      | nil => exact snd_for W RO H E rfl h
      | cons => exact h.elim
    | _ => exact h.elim
  | Raise exc cause pos => exact snd_rai W XO E h
  | Try b hs els fin pos => exact snd_try W XO H E h
  | _ => exact h.elim
theorem sndS (W : Wld X Sp) (RO : RangeOK X) (XO : ExcOK X) : ∀ n, SndS X Sp n := fun y1_ => match y1_ with
  | 0 => fun st ns r np env Xc c Q z_ h => h.elim
  | n + 1 => stepS W RO XO (sndS W RO XO n)
end
end Mine
namespace Mine
/-! ## function entry -/
theorem bindL_not {kindOf : Str → Option NameKind} {x : Str} : ∀ (binds : List (Str × Value)) (m : Str → Option Value), (∀ p ∈ binds, p.1 ≠ x) → bindL kindOf binds m x = m x := fun y1_ y2_ y3_ => match y1_, y2_, y3_ with
  | [], m, z1_ => rfl
  | (n, v) :: r, m, h => by
    rw [bindL, bindL_not r _ fun p hp => h p (.tail _ hp)]
    have hn : n ≠ x := h (n, v) (.head _)
    clear h r y2_ y3_
    split
    · simp only [if_neg (Ne.symm hn)]
    · rfl
theorem bindL_get {kindOf : Str → Option NameKind} {x : Str} {v : Value} (hk : kindOf x = some .local) : ∀ (binds : List (Str × Value)) (m : Str → Option Value), (binds.map (·.1)).Nodup → (x, v) ∈ binds → bindL kindOf binds m x = some v := fun y1_ y2_ y3_ y4_ => match y1_, y2_, y3_, y4_ with
  | (n, w) :: r, m, nd, h => by
    simp only [List.map_cons, List.nodup_cons] at nd
    rw [bindL]
    clear y2_ y3_ y4_
    have q_ := List.mem_cons.mp h
    clear h y1_
    rcases q_ with q | q
    · cases q
      rw [bindL_not r _ (fun p hp (e : p.1 = x) => nd.1 (List.mem_map.mpr ⟨p, hp, e⟩)), if_pos hk]
      simp
    · exact bindL_get hk r _ nd.2 q
theorem bindC_not {kindOf : Str → Option NameKind} {x : Str} : ∀ (binds : List (Str × Value)) (m : Str → Option Value), (∀ p ∈ binds, p.1 ≠ x) → bindC kindOf binds m x = m x := fun y1_ y2_ y3_ => match y1_, y2_, y3_ with
  | [], m, z1_ => rfl
  | (n, v) :: r, m, h => by
    rw [bindC, bindC_not r _ fun p hp => h p (.tail _ hp)]
    have hn : n ≠ x := h (n, v) (.head _)
    clear h r y2_ y3_
    split
    · rfl
    · simp only [if_neg (Ne.symm hn)]
theorem bindC_get {kindOf : Str → Option NameKind} {x : Str} {v : Value} (hk : kindOf x ≠ some .local) : ∀ (binds : List (Str × Value)) (m : Str → Option Value), (binds.map (·.1)).Nodup → (x, v) ∈ binds → bindC kindOf binds m x = some v := fun y1_ y2_ y3_ y4_ => match y1_, y2_, y3_, y4_ with
  | (n, w) :: r, m, nd, h => by
    simp only [List.map_cons, List.nodup_cons] at nd
    rw [bindC]
    clear y2_ y3_ y4_
    have q_ := List.mem_cons.mp h
    clear h y1_
    rcases q_ with q | q
    · cases q
      rw [bindC_not r _ (fun p hp (e : p.1 = x) => nd.1 (List.mem_map.mpr ⟨p, hp, e⟩)), if_neg hk]
      simp
    · exact bindC_get hk r _ nd.2 q
theorem cells_some {x : Str} : ∀ (names : Names) (n : Nat) (acc : List (Str × Addr)), (acc.lookup x).isSome = true → ((cellsFrom n names acc).lookup x).isSome = true := fun y1_ y2_ y3_ y4_ => match y1_, y2_, y3_, y4_ with
  | [], n, acc, h => h
  | (y, k) :: r, n, acc, h => by
    rw [cellsFrom]
    clear y1_ y2_ y4_
    split
    · refine cells_some r _ _ ?_
      rw [List.lookup_cons]
      clear r y3_
      split
      · rfl
      · exact h
    · exact cells_some r _ _ h
theorem cells_of {x : Str} : ∀ (names : Names) (n : Nat) (acc : List (Str × Addr)), (x, NameKind.cell) ∈ names → ((cellsFrom n names acc).lookup x).isSome = true := fun y1_ y2_ y3_ y4_ => match y1_, y2_, y3_, y4_ with
  | (y, k) :: r, n, acc, h => by
    rw [cellsFrom]
    clear y2_ y3_ y4_
    have q_ := List.mem_cons.mp h
    clear h y1_
    rcases q_ with q | q
    · cases q
      rw [if_pos (by rfl)]
      exact cells_some r _ _ (by simp)
    · split
      · exact cells_of r _ _ q
      · exact cells_of r _ _ q
theorem setAll_get {mv : MV} {i : Nat} : ∀ (ps : List Nat) (ms : List MV) (ρ : List (Option MV)), (setAll ρ ps ms)[i]? = some (some mv) → (∃ p : Nat, ps[p]? = some i ∧ ms[p]? = some mv) ∨ ρ[i]? = some (some mv) := fun y1_ y2_ y3_ y4_ => match y1_, y2_, y3_, y4_ with
  | [], ms, ρ, h => .inr (by simpa [setAll] using h)
  | j :: ps, [], ρ, h => .inr (by simpa [setAll] using h)
  | j :: ps, m :: ms, ρ, h => by
    rw [setAll] at h
    clear y4_
    have q_ := setAll_get ps ms _ h
    clear h setAll_get y1_ y2_ y3_
    rcases q_ with ⟨p, h1, h2⟩ | h1
    · exact .inl ⟨p + 1, by simpa using h1, by simpa using h2⟩
    · by_cases e : j = i
      · subst e
        have hl := (List.getElem?_eq_some_iff.mp h1).1
        rw [List.length_set] at hl
        rw [List.getElem?_set_self hl] at h1
        exact .inl ⟨0, rfl, by simpa using h1⟩
      · rw [List.getElem?_set_ne e] at h1
        exact .inr h1
noncomputable def nameOf (names : Names) (i : Nat) : Str := (names.getD i (⟨#[]⟩, .local)).1
inductive FnIt (K : Frag) (a : Nat) (names : Names) (ps : List Nat) (body : List Stmt) : Prop
  | mk (o : Obj) (fd : FuncData)
    (h0 : K.lookup a = some o)
    (h1 : o.data = .func fd)
    (h2 : fd.scope.names = names)
    (h3 : fd.scope.kind = .function)
    (h4 : fd.scope.isCoroutine = false)
    (h5 : fd.scope.isGenerator = false)
    (h6 : fd.body = .stmts body)
    (h7 : codeIn K fd.code fd.qualname = true)
    (g1 : fd.globals = mainGlobals)
    (h8 : fd.builtins = builtinsNs)
    (h9 : fd.closure = [])
    (h10 : ∀ (s : Shared) (vs : List Value), K.In s.heap → vs.length = ps.length → BindsTo s fd ⟨vs, []⟩ ((ps.map (nameOf names)).zip vs))
structure DefOK (X : Cx) (a : Nat) (names : Names) (ps : List Nat) (body : List Stmt) : Prop where
  it : FnIt X.K a names ps body
  keep : keepIn X.K (.ref a) = true
  nodup : (names.map (·.1)).Nodup
  pk : ∀ i ∈ ps, ∃ x k, names[i]? = some (x, k) ∧ (k = .local ∨ k = .cell)
  pn : ps.Nodup
section
variable {X : Cx} {r : Nat} {A : Around} {as : List Addr} {s s' : Shared} {names : Names} {ps : List Nat}
theorem zip_names {vs : List Value} (nd : (names.map (·.1)).Nodup) (pk : ∀ i ∈ ps, ∃ x k, names[i]? = some (x, k) ∧ (k = .local ∨ k = .cell)) (pn : ps.Nodup) (hl : vs.length = ps.length) : (((ps.map (nameOf names)).zip vs).map (·.1)).Nodup := by
  have e : ((ps.map (nameOf names)).zip vs).map (·.1) = ps.map (nameOf names) := List.map_fst_zip (by simp [hl])
  rw [e]
  refine List.pairwise_map.mpr (List.Pairwise.imp_of_mem (fun {i j} hi hj hne e => hne ?_) pn)
  clear hl hne pn
  obtain ⟨x, k, h1, _⟩ := pk i hi
  clear hi
  obtain ⟨y, k', h2, _⟩ := pk j hj
  have e1 : nameOf names i = x := by unfold nameOf; rw [List.getD_eq_getElem?_getD, h1]; rfl
  have e2 : nameOf names j = y := by unfold nameOf; rw [List.getD_eq_getElem?_getD, h2]; rfl
  rw [e1, e2] at e
  clear e1 e2 hj pk
  subst e
  by_cases hij : i = j
  · exact hij
  · exact absurd rfl (nameAt_ne nd h1 h2 hij)
/-- the new frame -/
theorem St.enter (G : X.Good) {env : Env} (E : EnvOK env names) (pk : ∀ i ∈ ps, ∃ x k, names[i]? = some (x, k) ∧ (k = .local ∨ k = .cell)) (pn : ps.Nodup) {vs : List Value} {args : List MV} {σp : List MO} (B : Base X s.heap) (S : StoreOK X s.heap as σp) (hr : RepMs X as s.heap vs args) (hl : args.length = ps.length)
    (low : X.g1.objs.size ≤ s.heap.objs.size) (h : InCallC s env.locals (bindL env.kindOf ((ps.map (nameOf names)).zip vs) fun z_ => none) env.cells (bindC env.kindOf ((ps.map (nameOf names)).zip vs) fun z_ => none) s') :
    St X env names ⟨bindPs names.length ps args, σp⟩ as s'.heap := by
  have k := h.toInCall.keep
  have hLn : s.heap.get? env.locals = none := by
    clear B E G S hl hr k low pk pn σp
    cases q : s.heap.get? env.locals with
    | none => rfl
    | some o => exact absurd (Heap.lt_size q) (Nat.not_lt.mpr h.toInCall.fresh)
  have hvl : vs.length = ps.length := hr.len.trans hl
  refine ⟨B.keep k, ⟨_, ⟨h.toInCall.ns, Nat.le_trans low h.toInCall.fresh, fun hm => ?_, ?_, fun i mv x kd e1 e2 => ?_⟩⟩, S.keep k⟩
  · clear B E G h hl hr hvl k low pk pn vs
    obtain ⟨_, _, ob, _, _, _, e, _⟩ := S.mem hm
    rw [hLn] at e
    clear S args hLn hm
    cases e
  · unfold bindPs
    rw [setAll_len, List.length_replicate]
  · unfold bindPs at e1
    clear B G S hLn hl low
    have q_ := setAll_get _ _ _ e1
    clear e1 σp
    rcases q_ with ⟨p, h1, h2⟩ | h1
    · obtain ⟨v, hv, hrv⟩ := hr.get h2
      have hx : nameOf names i = x := by unfold nameOf; rw [List.getD_eq_getElem?_getD, e2]; rfl
      have hmem : (x, v) ∈ (ps.map (nameOf names)).zip vs := by
        refine List.mem_of_getElem? (i := p) ?_
        rw [List.getElem?_zip_eq_some]
        exact ⟨by rw [List.getElem?_map, h1, Option.map_some, hx], hv⟩
      have nd := zip_names E.nodup pk pn hvl
      have hkd : env.kindOf x = some kd := (kind_of E x).trans (lookup_mem E.nodup (List.mem_of_getElem? e2))
      clear h2 hr hv hvl hx pn
      obtain ⟨x', k', w1, w2⟩ := pk i (List.mem_of_getElem? h1)
      rw [e2] at w1
      clear args h1 p pk
      cases w1
      rcases w2 with rfl | rfl
      · exact ⟨v, bindL_get hkd _ _ nd hmem, hrv.keep (tkeep_all k)⟩
      · obtain ⟨cc, hc⟩ := E.cells x (lookup_mem E.nodup (List.mem_of_getElem? e2))
        have hcell := h.cell x cc hc
        rw [bindC_get (by rw [hkd]; simp) _ _ nd hmem] at hcell
        exact ⟨cc, v, hc, hcell, hrv.keep (tkeep_all k)⟩
    · rw [List.getElem?_replicate] at h1
      split at h1 <;> cases h1
end
end Mine
namespace Mine
section
variable {X : Cx} {r : Nat} {A : Around} {as : List Addr} {s s' : Shared} {names : Names} {ps : List Nat}
noncomputable def flowVal : Flow → Value := fun y1_ => match y1_ with
  | .ret v => v
  | z1_ => .none
theorem frAddrs_deeper {env : Env} {L : Addr} (hf : env.frame = some L) {l : List Env} (hA : A.frames = some l) : frAddrs (A.deeper env) = L :: frAddrs A := by
  unfold frAddrs
  rw [Around.frames_deeper hA, hA]
  simp [hf]
/-- the caller's frame and the callee's -/
structure Ent (X : Cx) (r : Nat) (A : Around) (env : Env) (as : List Addr) (s s1 : Shared) : Prop where
  ac : ACond X (A.deeper env) (r - 1) as s1.heap
  ft : FrTop (A.deeper env) env
  kp : ∀ {h' : Heap}, Kp (frAddrs (A.deeper env)) (env.locals :: as) s1.heap h' → Kp (frAddrs A) as s.heap h'
  nones : ∀ b, s1.heap.get? b = none → s.heap.get? b = none
  same : ∃ h tk, s1 = { s with heap := h, toks := tk }
theorem under1 {r : Nat} (h : 1 ≤ r) (a : Nat) : a + 1 + (r - 1) = a + r ∧ a + 3 + 12 * (r - 1) ≤ a + 12 * r := by
  have q_ := Nat.exists_eq_add_of_le h
  clear h
  obtain ⟨k, rfl⟩ := q_
  rw [Nat.add_sub_cancel_left, Nat.add_assoc, Nat.add_assoc, Nat.mul_add]
  exact ⟨rfl, Nat.add_le_add_left (Nat.add_le_add_right (by decide) _) a⟩
theorem enters {env : Env} {c : AS} {s1 : Shared} (hr : 1 ≤ r) (E : EnvOK env names) (ac : ACond X A r as s.heap) (st1 : St X env names c as s1.heap) (hfr : env.frame = some env.locals)
    (k1 : ∀ b o, s.heap.get? b = some o → s1.heap.get? b = some o) (fresh : s.heap.objs.size ≤ env.locals) (same1 : ∃ h tk, s1 = { s with heap := h, toks := tk }) : Ent X r A env as s s1 := by
  obtain ⟨l, hA, hff⟩ := ac.frames
  have eF := frAddrs_deeper hfr hA
  have hLn : s.heap.get? env.locals = none := by
    clear E ac eF hA hff hfr hr k1 l same1 st1
    cases q : s.heap.get? env.locals with
    | none => rfl
    | some o => exact absurd (Heap.lt_size q) (Nat.not_lt.mpr fresh)
  clear fresh
  obtain ⟨m1, F1⟩ := st1.frame
  have ac1 : ACond X (A.deeper env) (r - 1) as s1.heap := by
    refine ⟨ac.handled, by show A.depth + 1 + (r - 1) + 10 < recursionLimit; rw [(under1 hr _).1]; exact ac.depth, by show A.units + 3 + 12 * (r - 1) + 100 < cLine; exact Nat.lt_of_le_of_lt (Nat.add_le_add_right (under1 hr _).2 _) ac.units, ⟨env :: l, Around.frames_deeper hA, fun ev he => ?_⟩, fun b hb => ?_, fun b hb => ?_⟩
    · clear ac eF hA hLn hr same1 st1
      rcases List.mem_cons.mp he with rfl | he
      · clear he hff k1 l
        obtain ⟨o, e, f⟩ := F1.obj
        exact ⟨by rw [E.kind]; simp, _, o, hfr, e, f⟩
      · clear E F1 c hfr m1
        obtain ⟨q1, L, oL, q2, q3, q4⟩ := hff ev he
        exact ⟨q1, L, oL, q2, k1 _ _ q3, q4⟩
    · rw [eF] at hb
      clear E eF hA hLn hff hfr hr k1 l same1 st1
      rcases List.mem_cons.mp hb with rfl | hb
      · exact F1.off
      · exact ac.off b hb
    · rw [eF] at hb
      clear E eF hA hLn hff hfr hr k1 l same1 st1
      rcases List.mem_cons.mp hb with rfl | hb
      · exact F1.high
      · exact ac.high b hb
  have kp1 : ∀ {h' : Heap}, Kp (frAddrs (A.deeper env)) (env.locals :: as) s1.heap h' → Kp (frAddrs A) as s.heap h' := fun {h'} k b o e nb np => by
    have hbL : b ≠ env.locals := fun q => by rw [q, hLn] at e; cases e
    clear E F1 ac ac1 hA hLn hff hfr hr l m1 same1 st1
    obtain ⟨sl, e', q⟩ := k b o (k1 b o e) (fun q => (List.mem_cons.mp q).elim hbL nb) np
    exact ⟨sl, e', fun hF => q (by rw [eF]; exact fun q => (List.mem_cons.mp q).elim hbL hF)⟩
  have nones : ∀ b, s1.heap.get? b = none → s.heap.get? b = none := fun b e => by
    clear E F1 ac ac1 eF hA hLn hff hfr hr kp1 l m1 same1 st1
    cases q : s.heap.get? b with
    | none => rfl
    | some o => rw [k1 b o q] at e; cases e
  exact ⟨ac1, ⟨hfr, l, Around.frames_deeper hA⟩, kp1, nones, same1⟩
theorem gives {env : Env} {c' : AS} {s1 s2 : Shared} {as' : List Addr} {σp : List MO} {u : Value} {m : MV} {Q : MV → List MO → List MO → Prop} {R : Result → Shared → Prop} (T : Ent X r A env as s s1) (hS1 : σp.length = as.length)
    (n : AtS X (r - 1) σp.length env names (A.deeper env) as s1 c' as' s2) (hval : RepM X as' s2.heap u m) (hq : handBack σp.length m c' Q)
    (hk : ∀ u m σp' σn asn s', Came X r A as s σp' σn asn s' → RepM X (as ++ asn) s'.heap u m → Q m σp' σn → R (.ok (.ret u)) s') : R (.ok (.ret u)) s2 := by
  unfold handBack at hq
  obtain ⟨⟨q, ws⟩, hn, hq⟩ := onP_elim hq
  obtain ⟨w, hw, hq⟩ := onP_elim hq
  obtain ⟨as0, w1, w2, w3, w4⟩ := norm_ok hn n.st
  have hlen' := n.len (Nat.le_of_eq hS1)
  have htk : as0.take as.length = as.take as.length := by
    have e1 := w3 hlen'
    rw [n.pre, hS1] at e1
    exact e1
  clear hlen' hn w3
  obtain ⟨asn, ea⟩ := prefix_of htk
  have hws := w4 _ (show RepMs X as' s2.heap [u] [m] by simp only [RepMs]; exact ⟨_, [], rfl, hval, rfl⟩)
  have hwr : RepM X as0 s2.heap u w := by
    clear T ea hS1 hk hq htk hval n s1 w1 w2 w4
    cases ws with
    | nil => cases hw
    | cons x xs =>
      simp only [List.head?_cons, Option.some.injEq] at hw
      clear R as' asn env hq q
      subst hw
      simp only [RepMs] at hws
      clear hq m σp
      obtain ⟨v', q', e', h', _⟩ := hws
      clear Q c'
      cases e'
      exact h'
  have hsl : as0.length = q.σ.length := w1.store.1
  clear htk hval hw hws w4
  subst ea
  show R (.ok (.ret u)) s2
  refine hk _ w (q.σ.take σp.length) (q.σ.drop σp.length) asn s2 ⟨n.st.base, by rw [List.take_append_drop]; exact w1.store, ?_, T.kp n.kp, fun x hx => ?_, ?_⟩ hwr hq
  · rw [List.length_take, ← hsl, List.length_append, hS1]; exact Nat.min_eq_left (Nat.le_add_right _ _)
  · have nd := List.nodup_append.mp w1.store.2.1
    clear hS1 hk hq hsl hwr u w w1
    have q_ := n.own x (w2 x (List.mem_append_right _ hx))
    clear R hq n q s2 w2 ws
    rcases q_ with z | z
    · exact absurd rfl (nd.2.2 x z x hx)
    · exact T.nones x z
  · clear hS1 hk hq hsl hwr u w w1 w2
    have q_ := n.same
    clear R asn hq n q ws
    obtain ⟨h, tk, rfl⟩ := q_
    clear as' hq m σp
    have q_ := T.same
    clear Q T c' env
    obtain ⟨h', tk', rfl⟩ := q_
    exact ⟨h, tk, rfl⟩
theorem throws {env : Env} {c : AS} {s1 s2 : Shared} {e : Addr} {Xf : Prop} {R : Result → Shared → Prop} (G : X.Good) (st1 : St X env names c as s1.heap) (T : Ent X r A env as s s1) (t : ThrownAt X env (A.deeper env) as s1 e s2) (hXf : Xf)
    (hx : Xf → ∀ e s', Out X A as s e s' → R (.error (.ref e)) s') : wpAny (model X.prog X.w) (A.deeper env) (leaving env (.ref e)) (fun z_ s3 => R (.error (.ref e)) s3) (fun e' s3 => R (.error e') s3) s2 := by
  refine leaves G T.ac st1 T.ft t fun s3 t3 he => ?_
  refine hx hXf e s3 ⟨t3.base, T.kp t3.kp, he, T.nones _ t3.new, fun Tb hT => T.nones _ (t3.newT Tb hT), fun b hb => T.nones _ (t3.there b hb), ?_⟩
  clear G hXf he hx st1 t
  have q_ := t3.same
  clear R Xf c s2 t3
  obtain ⟨h, tk, rfl⟩ := q_
  clear e
  have q_ := T.same
  clear T env
  obtain ⟨h', tk', rfl⟩ := q_
  exact ⟨h, tk, rfl⟩
theorem ACond.num {h : Heap} (ac : ACond X A r as h) : A.depth < recursionLimit := Nat.lt_of_le_of_lt (Nat.le_trans (Nat.le_add_right _ _) (Nat.le_add_right _ _)) ac.depth
theorem not_big {a k : Nat} {p : Prop} (h : a = 1000 + k) (ha : a < 1000) : p := absurd ha (Nat.not_lt.mpr (h ▸ Nat.le_add_right _ _))
theorem sem_def (G : X.Good) {a : Nat} {body : List Stmt} (D : DefOK X a names ps body) {args : List MV} {σp : List MO} {Q : MV → List MO → List MO → Prop} {Xf : Prop} (hr : 1 ≤ r) (hl : args.length = ps.length)
    (hB : ∀ env, EnvOK env names → SemS X (r - 1) σp.length env names Xf (execs body env) ⟨bindPs names.length ps args, σp⟩ fun fl c => handBack σp.length fl.val c Q) (ha : a < 1000) : SemFn X r a args σp Q Xf := by
  intro A as s v vs R ac B low S hfn hrep hk hx
  obtain ⟨o, fd, ho, hd, en, ek, eco, eg, eb, ecd, egl, ebi, ecl, ebind⟩ := D.it
  have hv : v = .ref a := by
    clear B D G S ac eb ebi ebind ecd ecl eco eg egl ek en hB hd hk hl ho hr hrep hx low o vs σp
    rcases hfn with ⟨_, h⟩ | ⟨k, d, o', h1, _⟩
    · exact h
    · exact not_big h1 ha
  clear ha hfn
  subst hv
  have XK := B.keepK G
  have hvl : vs.length = ps.length := hrep.len.trans hl
  have hnum : A.depth < recursionLimit := ac.num
  refine codeAny_call_function hnum (XK _ _ ho) hd eco eg eb (codeRec_of XK ecd) ?_
  refine ebind s vs XK hvl _ _ _ _ ?_
  rw [ecl]
  have hkinds : ∀ x ∈ (ps.map (nameOf names)).zip vs, ∃ k, names.lookup x.1 = some k ∧ (k = .local ∨ k = .cell) := fun x hx => by
    have hm := (List.of_mem_zip hx).1
    clear B G S XK ac eb ebi ebind ecd ecl eco eg egl ek en hB hd hk hl hnum ho hr hrep hvl hx low o vs σp
    obtain ⟨i, hi, e⟩ := List.mem_map.mp hm
    clear Q args fd hm hx s
    obtain ⟨y, k, h1, h2⟩ := D.pk i hi
    have : nameOf names i = y := by unfold nameOf; rw [List.getD_eq_getElem?_getD, h1]; rfl
    rw [← e, this]
    exact ⟨k, lookup_mem D.nodup (List.mem_of_getElem? h1), h2⟩
  refine wpAny_newFunctionEnv_cells ek (fun x hx => ?_) (fun env eenv s1 h1 => ?_)
  · clear B D G S XK ac eb ebi ebind ecd ecl eco eg egl ek hB hd hk hl hnum ho hr hrep hvl low o σp
    obtain ⟨k, h1, h2⟩ := hkinds x hx
    rw [en]
    clear Q a args body en fd hkinds hx vs
    rcases h2 with rfl | rfl
    · exact .inl h1
    · exact .inr ⟨h1, cells_of names _ _ (mem_lookup h1)⟩
  have hfr : env.frame = some env.locals := by rw [eenv]; rfl
  have E : EnvOK env names := by
    refine ⟨by rw [eenv]; exact en, by rw [eenv]; exact ek, by rw [eenv]; exact egl, by rw [eenv]; exact ebi, D.nodup, fun x hx => ?_⟩
    have := cells_of names (s.heap.objs.size + 1) [] (mem_lookup hx)
    rw [eenv]
    show ∃ a, (cellsFrom (s.heap.objs.size + 1) fd.scope.names []).lookup x = some a
    rw [en]
    exact Option.isSome_iff_exists.mp this
  have st1 : St X env names ⟨bindPs names.length ps args, σp⟩ as s1.heap := St.enter G E D.pk D.pn B S hrep hl low h1
  have k1 := h1.toInCall.keep
  have hS1 : σp.length = as.length := S.1.symm
  have T := enters hr E ac st1 hfr k1 h1.toInCall.fresh h1.toInCall.same
  refine ⟨G.nolimit.keeps st1.base.1, ?_⟩
  refine codeAny_func (hB env E (A.deeper env) as s1 _ _ T.ac st1 (Nat.le_of_eq hS1) T.ft (fun f fl c' as' s2 n hrf hq => ?_) fun hXf e s2 t => ?_)
  · have hval : RepM X as' s2.heap (flowVal f) fl.val := by
      cases f <;> cases fl <;> first | exact hrf | exact .none | exact hrf.elim
    exact gives T hS1 n hval hq hk
  · exact throws G st1 T t hXf hx
end
end Mine
namespace Mine
inductive LamIt (X : Cx) (k : Nat) (names : Names) (body : Expr) : Prop
  | mk (params : Arguments) (scope : Scope)
    (h0 : X.lam k = some (params, body, scope))
    (h1 : scope.names = names)
    (h2 : scope.kind = .function)
    (h3 : scope.isCoroutine = false)
    (h4 : scope.isGenerator = false)
    (g1 : ∀ (pm : Value) (c' : Addr) (ctv : Value) (s : Shared) (v : Value), BindsTo s (kla_fn "<lambda>" lamQual params body scope [] pm (.ref c') ctv) ⟨[v], []⟩ [(nameOf names 0, v)])
structure LamOK (X : Cx) (k : Nat) (names : Names) (body : Expr) : Prop where
  it : LamIt X k names body
  nodup : (names.map (·.1)).Nodup
  pk : ∃ x, names[0]? = some (x, .local)
section
variable {X : Cx} {r : Nat} {A : Around} {as : List Addr} {s s' : Shared} {names : Names}
theorem sem_lam (G : X.Good) {k : Nat} {body : Expr} (D : LamOK X k names body) {args : List MV} {σp : List MO} {Q : MV → List MO → List MO → Prop} {Xf : Prop} (hr : 1 ≤ r) (hl : args.length = 1)
    (hB : ∀ env, EnvOK env names → SemE X (r - 1) env names Xf (eval body env) ⟨bindPs names.length [0] args, σp⟩ fun v c => handBack σp.length v c Q) : SemFn X r (1000 + k) args σp Q Xf := by
  intro A as s v vs R ac B low S hfn hrep hk hx
  obtain ⟨params, scope, elam, en, ek, eco, eg, ebind⟩ := D.it
  obtain ⟨k', d, o, hk1, rfl, ho, hla⟩ : ∃ k' d o, 1000 + k = 1000 + k' ∧ v = .ref d ∧ s.heap.get? d = some o ∧ lamAt X s.heap k' o := by
    clear B D G S ac ebind eco eg ek elam en hB hk hl hr hrep hx low params scope vs σp
    rcases hfn with ⟨h, _⟩ | h
    · exact absurd h (Nat.not_lt.mpr (Nat.le_add_right _ _))
    · exact h
  have hkk : k' = k := (Nat.add_left_cancel hk1).symm
  clear hfn hk1
  subst hkk
  obtain ⟨params', body', scope', pm, c', ctv, elam', eo, hcr⟩ := hla
  rw [elam] at elam'
  clear elam
  cases elam'
  subst eo
  have hvl : vs.length = ([0] : List Nat).length := hrep.len.trans hl
  have hnum : A.depth < recursionLimit := ac.num
  refine kla_callFunE hnum ho rfl eco eg rfl hcr ?_
  obtain ⟨v1, hvs⟩ : ∃ v1, vs = [v1] := by
    match vs, hvl with
    | [v1], z1_ => exact ⟨v1, rfl⟩
  clear eco eg hcr hnum ho hvl
  subst hvs
  refine ebind pm c' ctv s v1 _ _ _ _ ?_
  have pk : ∀ i ∈ ([0] : List Nat), ∃ x k, names[i]? = some (x, k) ∧ (k = .local ∨ k = .cell) := fun i hi => by
    clear B G S ac c' ctv d ebind ek en hB hk hl hr hrep hx low params pm s scope v1 σp
    obtain ⟨x, h⟩ := D.pk
    rw [List.mem_singleton.mp hi]
    exact ⟨x, _, h, .inl rfl⟩
  have pn : ([0] : List Nat).Nodup := by decide
  have hkinds : ∀ x ∈ ([(nameOf names 0, v1)] : List (Str × Value)), ∃ k, names.lookup x.1 = some k ∧ (k = .local ∨ k = .cell) := fun x hx => by
    rw [List.mem_singleton.mp hx]
    clear B G S ac c' ctv d ebind ek en hB hk hl hr hrep hx low params pk pm pn scope x σp
    obtain ⟨y, h⟩ := D.pk
    have : nameOf names 0 = y := by unfold nameOf; rw [List.getD_eq_getElem?_getD, h]; rfl
    rw [this]
    exact ⟨_, lookup_mem D.nodup (List.mem_of_getElem? h), .inl rfl⟩
  refine wpAny_newFunctionEnv_cells ek (fun x hx => ?_) (fun env eenv s1 h1 => ?_)
  · clear B D G S ac d ebind ek hB hk hl hr hrep k' low pk pn σp
    obtain ⟨k, h1, h2⟩ := hkinds x hx
    rw [en]
    clear Q args body c' ctv en hkinds hx params pm scope v1
    rcases h2 with rfl | rfl
    · exact .inl h1
    · exact .inr ⟨h1, cells_of names _ _ (mem_lookup h1)⟩
  have hfr : env.frame = some env.locals := by rw [eenv]; rfl
  have E : EnvOK env names := by
    refine ⟨by rw [eenv]; exact en, by rw [eenv]; exact ek, by rw [eenv]; rfl, by rw [eenv]; rfl, D.nodup, fun x hx => ?_⟩
    have := cells_of names (s.heap.objs.size + 1) [] (mem_lookup hx)
    rw [eenv]
    show ∃ a, (cellsFrom (s.heap.objs.size + 1) scope.names []).lookup x = some a
    rw [en]
    exact Option.isSome_iff_exists.mp this
  have st1 : St X env names ⟨bindPs names.length [0] args, σp⟩ as s1.heap := St.enter (ps := [0]) G E pk pn B S hrep hl low h1
  have k1 := h1.toInCall.keep
  have hS1 : σp.length = as.length := S.1.symm
  have T := enters hr E ac st1 hfr k1 h1.toInCall.fresh h1.toInCall.same
  refine ⟨G.nolimit.keeps st1.base.1, ?_⟩
  refine kla_codeExpr (hB env E (A.deeper env) as s1 _ _ T.ac st1 trivial (fun u m c' as' s2 n0 hval hq => ?_) fun hXf e s2 t => ?_)
  · have n := n0.toS (np := σp.length) (Nat.le_of_eq hS1)
    exact gives T hS1 n hval hq hk
  · exact throws G st1 T t hXf hx
end
end Mine
namespace Mine
/-! ## the dict of lambdas -/
theorem among_snoc {pos pos' : Pos} {c cv : Value} : ∀ {l : List Value}, TriplesOk l → codeAmong pos (l ++ [rawInt pos'.line, rawInt pos'.col, c]) = some cv → codeAmong pos l = some cv ∨ cv = c := @fun y1_ y2_ y3_ => match y1_, y2_, y3_ with
  | [], _, h => by
    simp only [List.nil_append, codeAmong, rawInt] at h
    split at h
    · exact .inr (Option.some.inj h).symm
    · clear y2_ y3_
      cases h
  | .int a t :: .int b u :: x :: r, ht, h => by
    simp only [List.cons_append, codeAmong] at h ⊢
    split at h
    · rename_i q
      rw [if_pos q]
      exact .inl h
    · rename_i q
      rw [if_neg q]
      exact among_snoc (l := r) (by simpa only [TriplesOk] using ht) h
section
variable {X : Cx} {M : Model} {A : Around} {E : Value → Shared → Prop} {s : Shared} {env : Env}
theorem bat_keep (G : X.Good) {h : Heap} (k : ∀ b o, X.g1.get? b = some o → h.get? b = some o) : h.BuiltinsAt X.mg PT := by
  obtain ⟨bm, ob, b1, b2, b3, b4, b5, b6⟩ := G.bat
  exact ⟨bm, ob, b1, b2, b3, b4, k _ _ b5, b6⟩
theorem lam_make (G : X.Good) (hP : X.g1.get? PT = none) (hd : CodeHd X.g1 410 PT) (eg : env.globals = mainGlobals) (ec : env.code = .ref 410) (eq : env.qual ++ "<lambda>" = lamQual) {params : Arguments} {body : Expr} {scope : Scope} {pos : Pos} (hdef : defaultsOf params env = ([], [])) (hcl : closureFor scope env = pure []) (B : Base X s.heap) {Q : Value → Shared → Prop}
    (h : ∀ f h' tk, (∀ b o, b ≠ PT → s.heap.get? b = some o → h'.get? b = some o) → Base X h' → s.heap.objs.size ≤ f → f < h'.objs.size → (∃ pm c' ctv, h'.get? f = some (kla_obj "<lambda>" lamQual params body scope [] pm c' ctv) ∧ h'.CodeRec (.ref c') lamQual) → Q (.ref f) { s with heap := h', toks := tk }) :
    wpAny M A (eval (.Lambda params body scope pos) env) Q E s := by
  refine kla_eval hdef ?_
  rw [eq]
  clear eq hdef
  obtain ⟨ps, hps, htr, hall⟩ := B.2
  have hg := G.g.keeps B.1
  have hgP : mainGlobals ≠ PT := fun q => by
    clear B G ec eg h hP hall hcl hd htr params pos scope
    obtain ⟨o, es, ep, e, hd', _⟩ := hg
    rw [q, hps] at e
    clear Q body hps q
    cases e
    cases hd'
  cases hf : codeAmong pos ps.toList with
  | some cv =>
    clear hP hgP
    have q_ := hall pos cv hf
    clear hall
    obtain ⟨c, rfl, hrec⟩ := q_
    refine kla_makeFunctionHit (mg := X.mg) hcl eg hg ec (hd.keeps B.1) hps htr hf (bat_keep G B.1) fun ctv h' tk hk hsz => ?_
    have kk : ∀ b o, s.heap.get? b = some o → (h'.push (kla_obj "<lambda>" lamQual params body scope [] ((X.mg "__name__").getD .none) c ctv)).get? b = some o := fun b o e => Heap.get?_push_of_some _ (hk b o e)
    refine h _ _ tk (fun b o z_ e => kk b o e) (B.keep kk) hsz (by rw [Heap.size_push]; omega) ⟨_, c, ctv, Heap.get?_push_size _ rfl, codeRec_keep (tkeep_all kk) hrec⟩
  | none =>
    refine kla_makeFunction (mg := X.mg) hcl eg hg ec (hd.keeps B.1) hps htr hf hgP (bat_keep G B.1) fun c' ctv h' tk hx hge hlt hrec htab => ?_
    have kk : ∀ b o, b ≠ PT → s.heap.get? b = some o → (h'.push (kla_obj "<lambda>" lamQual params body scope [] ((X.mg "__name__").getD .none) c' ctv)).get? b = some o := fun b o n e => Heap.get?_push_of_some _ (hx b o n e)
    have kp : ∀ b o, h'.get? b = some o → (h'.push (kla_obj "<lambda>" lamQual params body scope [] ((X.mg "__name__").getD .none) c' ctv)).get? b = some o := fun b o e => Heap.get?_push_of_some _ e
    refine h _ _ tk kk ⟨fun b o e => kk b o (fun q => by rw [q, hP] at e; cases e) (B.1 b o e), _, kp _ _ htab, ?_, fun pos' cv hcv => ?_⟩ (Nat.le_of_lt (Nat.lt_of_le_of_lt hge hlt)) (by rw [Heap.size_push]; omega) ⟨_, c', ctv, Heap.get?_push_size _ rfl, codeRec_keep (tkeep_all kp) hrec⟩
    · rw [Array.toList_append]
      exact TriplesOk_snoc _ _ _ _ htr
    · rw [Array.toList_append] at hcv
      clear G ec eg h hP hcl hd hf hg hgP hge hlt hps htab hx tk
      have q_ := among_snoc htr hcv
      clear Q hcv htr pos
      rcases q_ with q | rfl
      · clear hrec kp
        have q_ := hall pos' cv q
        clear hall
        obtain ⟨c, rfl, hr⟩ := q_
        refine ⟨c, rfl, ?_⟩
        obtain ⟨c0, o, vs, t, e, ho, hd', r⟩ := hr
        refine ⟨c0, o, vs, t, e, kk _ _ (fun q => ?_) ho, hd', r⟩
        rw [q] at ho
        exact tab_notImm B.2 ho (.code hd' r)
      · exact ⟨c', rfl, codeRec_keep (tkeep_all kp) hrec⟩
end
structure LRow where
  k : Nat
  u : Nat
  p : Pos
  params : Arguments
  body : Expr
  scope : Scope
  q : Pos
noncomputable def LRow.key (t : LRow) : Option Expr := some (.Constant (.str (S t.k)) t.u t.p)
noncomputable def LRow.val (t : LRow) : Expr := .Lambda t.params t.body t.scope t.q
inductive MacIt (K : Frag) (lam : Nat → Option (Arguments × Expr × Scope)) : Prop
  | mk (o : Obj) (fd : FuncData) (L : List LRow) (pos : Pos) (pos2 : Pos)
    (h0 : K.lookup 411 = some o)
    (h1 : o.data = .func fd)
    (h2 : fd.scope.kind = .function)
    (h3 : fd.scope.isCoroutine = false)
    (h4 : fd.scope.isGenerator = false)
    (g1 : fd.body = .stmts [.Return (some (.Dict (L.map LRow.key) (L.map LRow.val) pos)) pos2])
    (h5 : codeIn K fd.code fd.qualname = true)
    (h6 : fd.code = .ref 410)
    (h7 : fd.qualname ++ ".<locals>." ++ "<lambda>" = lamQual)
    (h8 : fd.globals = mainGlobals)
    (h9 : fd.builtins = builtinsNs)
    (h10 : fd.closure = [])
    (g2 : L.map (·.k) = [62, 63, 64, 65, 66, 67])
    (h11 : ∀ i t, L[i]? = some t → lam i = some (t.params, t.body, t.scope))
    (h12 : ∀ t ∈ L, ∀ env, defaultsOf t.params env = ([], []) ∧ closureFor t.scope env = pure [])
    (h13 : ∀ s : Shared, BindsTo s fd ⟨[], []⟩ [])
structure MacOK (X : Cx) : Prop where
  it : MacIt X.K X.lam
  hP : X.g1.get? PT = none
  hd : CodeHd X.g1 410 PT
  keep : keepIn X.K (.ref 411) = true
section
variable {X : Cx} {A : Around} {E : Value → Shared → Prop} {env : Env}
/-- the lambdas as they stand -/
noncomputable def LamVs (X : Cx) (h : Heap) : Nat → List LRow → List (Value × Value) → List Addr → Prop := fun y1_ y2_ y3_ y4_ => match y1_, y2_, y3_, y4_ with
  | z1_, [], [], [] => True
  | i, t :: L, (key, v) :: vs, f :: fs => ((∃ tk, key = .str (S t.k) tk) ∧ v = .ref f ∧ ∃ o, h.get? f = some o ∧ lamAt X h i o) ∧ LamVs X h (i + 1) L vs fs
  | z1_, z2_, z3_, z4_ => False
theorem codeRec_ne {h h' : Heap} (T : TabOK h) (k : ∀ b o, b ≠ PT → h.get? b = some o → h'.get? b = some o) {cd : Value} {q : Str} (x : h.CodeRec cd q) : h'.CodeRec cd q := by
  obtain ⟨c0, o, vs, t, e, ho, hd', r⟩ := x
  refine ⟨c0, o, vs, t, e, k _ _ (fun q => ?_) ho, hd', r⟩
  rw [q] at ho
  exact tab_notImm T ho (.code hd' r)
noncomputable def lamPair (env : Env) (pos : Pos) (t : LRow) : Sem Value × Sem Value := (eval (.Constant (.str (S t.k)) t.u t.p) env, do let x ← eval t.val env; standAt pos; pure x)
theorem shape_lams (env : Env) (pos : Pos) : ∀ L : List LRow, (evalEachOpt (L.map LRow.key) env).zip ((evalEach (L.map LRow.val) env).map fun v => do let x ← v; standAt pos; pure x) = (L.map (lamPair env pos)).map fun p => (some p.1, p.2) := fun y1_ => match y1_ with
  | [] => rfl
  | t :: L => by
    simp only [List.map_cons, evalEachOpt, evalEach, List.zip_cons_cons]
    rw [shape_lams env pos L]
    rfl
theorem pairs_lams (G : X.Good) (MO : MacOK X) (eg : env.globals = mainGlobals) (ec : env.code = .ref 410) (eq : env.qual ++ "<lambda>" = lamQual) {pos : Pos} : ∀ (L : List LRow) (i : Nat) {s : Shared} {Q : List (Value × Value) → Shared → Prop}, Base X s.heap →
    (∀ j t, L[j]? = some t → X.lam (i + j) = some (t.params, t.body, t.scope)) → (∀ t ∈ L, ∀ env, defaultsOf t.params env = ([], []) ∧ closureFor t.scope env = pure []) →
    (∀ vs fs h' tk, (∀ b o, b ≠ PT → s.heap.get? b = some o → h'.get? b = some o) → Base X h' → LamVs X h' i L vs fs → fs.Nodup → (∀ f ∈ fs, s.heap.objs.size ≤ f) → Q vs { s with heap := h', toks := tk }) →
    wpAny (model X.prog X.w) A (evalPairs (L.map (lamPair env pos))) Q E s
  | [], i, s, Q, B, z1_, z2_, h => evalPairs_nil (h [] [] s.heap s.toks (fun z_ z_ z_ e => e) B trivial List.nodup_nil fun f hf => nomatch hf)
  | t :: L, i, s, Q, B, hl, hc, h => by
    obtain ⟨c1, c2⟩ := hc t (.head _) env
    refine evalPairs_cons (wpAny_Constant_str (wpAny_bind (lam_make (s := { s with toks := s.toks + 1 }) G MO.hP MO.hd eg ec eq c1 c2 B fun f h1 tk1 k1 B1 f1 f2 ⟨pm, c', ctv, hf, hr⟩ => wpAny_bind (wpAny_standAt (wpAny_pure ?_)))))
    refine pairs_lams G MO eg ec eq L (i + 1) (s := { s with heap := h1, toks := tk1 }) B1 (fun j u hj => by rw [show i + 1 + j = i + (j + 1) by omega]; exact hl (j + 1) u hj) (fun u hu => hc u (.tail _ hu)) fun vs fs h2 tk2 k2 B2 lv nd fr => ?_
    have hfP : f ≠ PT := fun q => by
      clear B1 B2 G MO c1 c2 ec eg eq f2 fr h hc hf hl hr k1 k2 lv nd pm pos tk1 tk2 vs
      obtain ⟨ps, e, _⟩ := B.2
      rw [q] at f1
      exact absurd (Heap.lt_size e) (Nat.not_lt.mpr f1)
    refine h ((.str (S t.k) s.toks, .ref f) :: vs) (f :: fs) h2 tk2 (fun b o n e => k2 b o n (k1 b o n e)) B2 ⟨⟨⟨_, rfl⟩, rfl, _, k2 _ _ hfP hf, t.params, t.body, t.scope, pm, c', ctv, hl 0 t rfl, rfl, codeRec_ne B1.2 k2 hr⟩, lv⟩ (List.nodup_cons.mpr ⟨fun hm => ?_, nd⟩) fun g hg => ?_
    · have := fr f hm
      dsimp only at this
      omega
    · rcases List.mem_cons.mp hg with rfl | hg
      · exact f1
      · have := fr g hg
        dsimp only at this f1
        omega
theorem lamVs_carries {h : Heap} : ∀ {i : Nat} {L : List LRow} {vs : List (Value × Value)} {fs : List Addr}, LamVs X h i L vs fs → Carries (PySem.strKind X.prog X.w) vs (L.zip fs |>.map fun p => (S p.1.k, Value.ref p.2)) := @fun y1_ y2_ y3_ y4_ y5_ => match y1_, y2_, y3_, y4_, y5_ with
  | z1_, [], [], [], z2_ => trivial
  | i, t :: L, (key, v) :: vs, f :: fs, ⟨⟨⟨tk, e1⟩, e2, z1_⟩, r⟩ => by
    clear y5_ z1_
    subst e1
    clear y1_ y2_ y3_ y4_
    subst e2
    exact ⟨by simp [PySem.strKind, Value.isStrOf], rfl, lamVs_carries r⟩
  | z1_, [], [], z2_ :: z3_, r => r.elim
  | z1_, [], z2_ :: z3_, z4_, r => r.elim
  | z1_, z2_ :: z3_, [], z4_, r => r.elim
  | z1_, z2_ :: z3_, z4_ :: z5_, [], r => r.elim
theorem lamVs_len {h : Heap} : ∀ {i : Nat} {L : List LRow} {vs : List (Value × Value)} {fs : List Addr}, LamVs X h i L vs fs → L.length = fs.length := @fun y1_ y2_ y3_ y4_ y5_ => match y1_, y2_, y3_, y4_, y5_ with
  | z1_, [], [], [], z2_ => rfl
  | i, t :: L, (key, v) :: vs, f :: fs, ⟨z1_, r⟩ => by rw [List.length_cons, List.length_cons, lamVs_len r]
  | z1_, [], [], z2_ :: z3_, r => r.elim
  | z1_, [], z2_ :: z3_, z4_, r => r.elim
  | z1_, z2_ :: z3_, [], z4_, r => r.elim
  | z1_, z2_ :: z3_, z4_ :: z5_, [], r => r.elim
theorem lamVs_at {h : Heap} : ∀ {i : Nat} {L : List LRow} {vs : List (Value × Value)} {fs : List Addr}, LamVs X h i L vs fs → ∀ {j : Nat} {f : Addr}, fs[j]? = some f → ∃ o, h.get? f = some o ∧ lamAt X h (i + j) o := @fun y1_ y2_ y3_ y4_ y5_ y6_ y7_ y8_ => match y1_, y2_, y3_, y4_, y5_, y6_, y7_, y8_ with
  | z1_, [], [], [], z2_, j, f, e => by simp at e
  | i, t :: L, (key, v) :: vs, g :: fs, ⟨⟨z1_, z2_, o, h1, h2⟩, r⟩, 0, f, e => by
    clear r vs y5_ y8_ z1_ z2_
    cases e
    exact ⟨o, h1, h2⟩
  | i, t :: L, (key, v) :: vs, g :: fs, ⟨z1_, r⟩, j + 1, f, e => by
    have := lamVs_at r (j := j) (f := f) (by simpa using e)
    rw [show i + (j + 1) = i + 1 + j by omega]
    exact this
  | z1_, [], [], z2_ :: z3_, r, z4_, z5_, z6_ => r.elim
  | z1_, [], z2_ :: z3_, z4_, r, z5_, z6_, z7_ => r.elim
  | z1_, z2_ :: z3_, [], z4_, r, z5_, z6_, z7_ => r.elim
  | z1_, z2_ :: z3_, z4_ :: z5_, [], r, z6_, z7_, z8_ => r.elim
set_option tactic.hygienic true in
theorem reps_of {as : List Addr} {h : Heap} : ∀ {es : List DictEntry} {ks : List Nat} {fs : List Addr} {i : Nat}, PySem.Pairs (PySem.strKind X.prog X.w) es ((ks.zip fs).map fun p => (S p.1, Value.ref p.2)) → (∀ e ∈ es, ∃ k, (PySem.strKind X.prog X.w).is k e.key = true ∧ e.hash = (PySem.strKind X.prog X.w).hash k) → ks.length = fs.length →
    (∀ k ∈ ks, k < nStr) → (∀ j f, fs[j]? = some f → as[i + j]? = some f) → RepEs X as h es ((ks.zip (List.range' i fs.length)).map fun p => (p.1, .loc p.2))
  | es, [], [], i, p, _, _, _, _ => by
    cases p
    trivial
  | es, k :: ks, f :: fs, i, p, hk, hl, hn, hi => by
    simp only [List.zip_cons_cons, List.map_cons] at p
    cases p with
    | cons h1 h2 p =>
      rename_i e es
      obtain ⟨t, ek⟩ := Value.isStrOf_shape h1
      simp only [List.length_cons, List.range'_succ, List.zip_cons_cons, List.map_cons]
      refine ⟨⟨hn k (.head _), ⟨t, ek⟩, ?_, ?_⟩, ?_⟩
      · clear ek h h2 hi hl hn i p t
        obtain ⟨k', q1, q2⟩ := hk e (.head _)
        have : k' = S k := (PySem.strKind X.prog X.w).inj e.key k' (S k) q1 h1
        clear as fs h1 hk ks q1
        subst this
        exact q2
      · rw [h2]
        simp only [RepM]
        exact ⟨f, hi 0 f rfl, rfl⟩
      · exact reps_of (i := i + 1) p (fun e he => hk e (.tail _ he)) (by simpa using hl) (fun k hk' => hn k (.tail _ hk')) fun j g hg => by
          rw [show i + 1 + j = i + (j + 1) by omega]
          exact hi (j + 1) g (by simpa using hg)
  | _, [], _ :: _, _, _, _, hl, _, _ => by simp at hl
  | _, _ :: _, [], _, _, _, hl, _, _ => by simp at hl
end
end Mine
namespace Mine
/-- NameSupply.__init__: [self] -/
noncomputable def f152 : List Nat × Nat × List MS := ([0], 1, [
  .setA (.lv 0) 30 (.int 0)])
/-- Renamer.__init__: [self, supply] -/
noncomputable def f187 : List Nat × Nat × List MS := ([0, 1], 2, [
  .setA (.lv 0) 32 (.lv 1)])
/-- Expander.__init__: [self, macros, supply, fuel] -/
noncomputable def f347 : List Nat × Nat × List MS := ([0, 1, 2, 3], 4, [
  .setA (.lv 0) 54 (.lv 1),
  .setA (.lv 0) 32 (.lv 2),
  .setA (.lv 0) 55 (.lv 3)])
/-- expr: [head, parts, tuple] -/
noncomputable def f54 : List Nat × Nat × List MS := ([0, 1], 3, [
  .ret (.tup [(.str 0), (.lv 0), (.call (.gl 0) [(.lv 1)])])])
/-- is_expr: [tree, head] -/
noncomputable def f61 : List Nat × Nat × List MS := ([0, 1], 2, [
  .ret (.and (.cmp .eq (.sub (.lv 0) (.int 0)) (.str 0)) (.cmp .eq (.sub (.lv 0) (.int 1)) (.lv 1)))])
/-- head_of: [tree] -/
noncomputable def f68 : List Nat × Nat × List MS := ([0], 1, [
  .ret (.ite (.cmp .eq (.sub (.lv 0) (.int 0)) (.str 0)) (.sub (.lv 0) (.int 1)) (.str 1))])
/-- parts_of: [tree] -/
noncomputable def f75 : List Nat × Nat × List MS := ([0], 1, [
  .ret (.ite (.cmp .eq (.sub (.lv 0) (.int 0)) (.str 0)) (.sub (.lv 0) (.int 2)) (.tup []))])
/-- is_sym: [tree] -/
noncomputable def f82 : List Nat × Nat × List MS := ([0], 1, [
  .ret (.cmp .eq (.sub (.lv 0) (.int 0)) (.str 2))])
/-- own_names: [trees, bound, told_global, left, here, head, told, list, head_of, OPENING, CHANGING, place_names, declared_names, parts_of] -/
noncomputable def f103 : List Nat × Nat × List MS := ([0], 14, [
  .asgT [1, 2, 3] (.tup [(.lst []), (.lst []), (.slc (.call (.gl 1) [(.lv 0)]) none none true)]),
  .whl (.cmp .ne (.lv 3) (.lst [])) [.asg 4 (.meth (.lv 3) 25 []), .asg 5 (.call (.gl 16) [(.lv 4)]), .iff (.cmp .isin (.lv 5) (.gl 8)) [.cnt] [], .iff (.or (.cmp .eq (.lv 5) (.str 27)) (.cmp .isin (.lv 5) (.gl 9))) [.ex (.meth (.lv 1) 26 [(.call .bad [(.sub (.sub (.lv 4) (.int 2)) (.int 0))])])] [.iff (.cmp .isin (.lv 5) (.tup [(.str 28), (.str 29)])) [.asg 6 (.ite (.cmp .eq (.lv 5) (.str 28)) (.lv 1) (.lv 2)), .ex (.meth (.lv 6) 26 [(.call .bad [(.lv 4)])]), .ex (.meth (.lv 3) 26 [(.comp [1] [] 3 (.sub (.sub (.lv 1) (.int 2)) (.int 1)) (some (.call (.gl 15) [(.lv 1), (.str 27)])) (.slc (.sub (.lv 4) (.int 2)) none none true))]), .cnt] []], .ex (.meth (.lv 3) 26 [(.slc (.call (.gl 17) [(.lv 4)]) none none true)])],
  .ret (.tup [(.lv 1), (.lv 2)])])
/-- bare: [tree, tasks, done, is_ready, node, many, kids, part, len, expr, is_expr] -/
noncomputable def f173 : List Nat × Nat × List MS := ([0], 11, [
  .asgT [1, 2] (.tup [(.lst [(.tup [(.con (.bool false)), (.lv 0)])]), (.lst [])]),
  .whl (.cmp .ne (.lv 1) (.lst [])) [.asgT [3, 4] (.meth (.lv 1) 25 []), .iff (.lv 3) [.asg 5 (.call (.gl 4) [(.sub (.lv 4) (.int 2))]), .asg 6 (.slc (.lv 2) (some (.bin .sub (.call (.gl 4) [(.lv 2)]) (.lv 5))) none false), .asg 2 (.slc (.lv 2) none (some (.bin .sub (.call (.gl 4) [(.lv 2)]) (.lv 5))) false), .ex (.meth (.lv 2) 31 [(.call (.gl 14) [(.sub (.lv 4) (.int 1)), (.lv 6)])])] [.iff (.call (.gl 15) [(.lv 4), (.str 14)]) [.ex (.meth (.lv 2) 31 [(.sub (.sub (.lv 4) (.int 2)) (.int 0))])] [.iff (.cmp .ne (.sub (.lv 4) (.int 0)) (.str 0)) [.ex (.meth (.lv 2) 31 [(.lv 4)])] [.ex (.meth (.lv 1) 31 [(.tup [(.con (.bool true)), (.lv 4)])]), .for_ 7 (.slc (.sub (.lv 4) (.int 2)) none none true) [.ex (.meth (.lv 1) 31 [(.tup [(.con (.bool false)), (.lv 7)])])]]]]],
  .ret (.sub (.lv 2) (.int 0))])
/-- Renamer.fresh: [self, env, names, found, name, dict] -/
noncomputable def f194 : List Nat × Nat × List MS := ([0, 1, 2], 6, [
  .asg 3 (.call (.gl 2) [(.lv 1)]),
  .for_ 4 (.lv 2) [.setI (.lv 3) (.lv 4) (.meth (.attr (.lv 0) 32) 33 [(.lv 4)])],
  .ret (.lv 3)])
/-- Renamer.opened: [self, env, trees, bound, told_global, fresh, name, found, own_names] -/
noncomputable def f201 : List Nat × Nat × List MS := ([0, 1, 2], 9, [
  .asgT [3, 4] (.call (.gl 19) [(.lv 2)]),
  .asg 5 (.lst []),
  .for_ 6 (.lv 3) [.iff .bad [.ex (.meth (.lv 5) 31 [(.lv 6)])] []],
  .asg 7 (.meth (.lv 0) 34 [(.lv 1), (.lv 5)]),
  .for_ 6 (.lv 4) [.setI (.lv 7) (.lv 6) (.lv 6)],
  .ret (.lv 7)])
/-- Renamer.body: [self, env, tree, deep] -/
noncomputable def f208 : List Nat × Nat × List MS := ([0, 1, 2, 3], 4, [
  .ret (.meth (.lv 0) 35 [(.meth (.lv 0) 36 [(.lv 1), (.lst [(.lv 2)])]), (.lv 2), (.lv 3)])])
/-- Renamer.all_of: [self, env, trees, deep] -/
noncomputable def f213 : List Nat × Nat × List MS := ([0, 1, 2, 3], 4, [
  .ret (.comp [1] [(3, 2), (1, 3), (0, 4)] 5 (.meth (.lv 4) 35 [(.lv 3), (.lv 1), (.lv 2)]) none (.lv 2))])
/-- Renamer.of: [self, env, tree, deep, head, parts, MOST_DEEP, MacroFault, is_sym, bare, expr] -/
noncomputable def f220 : List Nat × Nat × List MS := ([0, 1, 2, 3], 11, [
  .iff (.cmp .gt (.lv 3) (.gl 10)) [.rai (.str 37)] [],
  .iff (.call (.gl 18) [(.lv 2)]) [.ret (.tup [(.str 2), (.meth (.lv 1) 44 [(.sub (.lv 2) (.int 1)), (.sub (.lv 2) (.int 1))])])] [],
  .iff (.cmp .ne (.sub (.lv 2) (.int 0)) (.str 0)) [.ret (.lv 2)] [],
  .asgT [4, 5] (.tup [(.sub (.lv 2) (.int 1)), (.sub (.lv 2) (.int 2))]),
  .iff (.cmp .eq (.lv 4) (.str 14)) [.ret (.sub (.lv 5) (.int 0))] [],
  .iff (.cmp .isin (.lv 4) (.tup [(.str 13), (.str 15), (.str 16)])) [.ret (.call (.gl 20) [(.lv 2)])] [],
  .iff (.cmp .isin (.lv 4) (.tup [(.str 3), (.str 12), (.str 4)])) [.ret (.meth (.lv 0) 3 [(.lv 1), (.lv 2), (.lv 3)])] [],
  .iff (.cmp .isin (.lv 4) (.tup [(.str 6), (.str 7), (.str 8), (.str 9), (.str 10), (.str 11)])) [.ret (.meth (.lv 0) 38 [(.lv 1), (.lv 2), (.lv 3)])] [],
  .iff (.cmp .isin (.lv 4) (.tup [(.str 39), (.str 40), (.str 41)])) [.ret (.meth (.lv 0) 42 [(.lv 1), (.lv 2), (.lv 3)])] [],
  .ret (.call (.gl 14) [(.lv 4), (.meth (.lv 0) 43 [(.lv 1), (.lv 5), (.bin .add (.lv 3) (.int 1))])])])
/-- Renamer.named: [self, env, tree, deep, head, parts, expr] -/
noncomputable def f225 : List Nat × Nat × List MS := ([0, 1, 2, 3], 7, [
  .asgT [4, 5] (.tup [(.sub (.lv 2) (.int 1)), (.sub (.lv 2) (.int 2))]),
  .iff (.cmp .eq (.lv 4) (.str 39)) [.ret (.call (.gl 14) [(.lv 4), (.bin .add (.lst [(.meth (.lv 0) 35 [(.lv 1), (.sub (.lv 5) (.int 0)), (.bin .add (.lv 3) (.int 1))])]) (.comp [1] [(3, 2), (1, 3), (0, 4)] 5 (.meth (.lv 4) 45 [(.lv 3), (.lv 1), (.lv 2)]) none (.slc (.lv 5) (some (.int 1)) none false)))])] [],
  .ret (.call (.gl 14) [(.lv 4), (.bin .add (.lst [(.meth (.lv 0) 45 [(.lv 1), (.sub (.lv 5) (.int 0)), (.lv 3)])]) (.meth (.lv 0) 43 [(.lv 1), (.slc (.lv 5) (some (.int 1)) none false), (.bin .add (.lv 3) (.int 1))]))])])
/-- Renamer.kept: [self, env, tree, deep, is_sym] -/
noncomputable def f232 : List Nat × Nat × List MS := ([0, 1, 2, 3], 5, [
  .ret (.ite (.call (.gl 18) [(.lv 2)]) (.lv 2) (.meth (.lv 0) 35 [(.lv 1), (.lv 2), (.bin .add (.lv 3) (.int 1))]))])
/-- renamed_locals: [tree, supply, Renamer] -/
noncomputable def f291 : List Nat × Nat × List MS := ([0, 1], 3, [
  .ret (.meth (.call (.gl 12) [(.lv 1)]) 46 [.dct0, (.lv 0), (.int 0)])])
/-- plain_maker: [tree] -/
noncomputable def f300 : List Nat × Nat × List MS := ([0], 1, [
  .iff (.cmp .eq (.sub (.lv 0) (.int 0)) (.str 2)) [.ret (.tup [(.str 47), (.lv 0)])] [],
  .ret (.ite (.cmp .eq (.sub (.lv 0) (.int 0)) (.str 0)) (.tup [(.str 47), (.tup [(.str 48), (.lv 0)])]) (.lv 0))])
/-- inner_depth: [head, depth] -/
noncomputable def f314 : List Nat × Nat × List MS := ([0, 1], 2, [
  .iff (.cmp .eq (.lv 0) (.str 13)) [.ret (.bin .add (.lv 1) (.int 1))] [],
  .ret (.ite (.cmp .eq (.lv 0) (.str 49)) (.bin .sub (.lv 1) (.int 1)) (.lv 1))])
/-- put_in: [tree, len, MacroFault] -/
noncomputable def f321 : List Nat × Nat × List MS := ([0], 3, [
  .iff (.cmp .ne (.call (.gl 4) [(.sub (.lv 0) (.int 2))]) (.int 1)) [.rai (.str 50)] [],
  .ret (.sub (.sub (.lv 0) (.int 2)) (.int 0))])
/-- joined_parts: [node, kids, makers, all, expr, MAKER] -/
noncomputable def f326 : List Nat × Nat × List MS := ([0, 1], 6, [
  .iff (.call (.gl 5) [(.comp [1, 2] [] 3 (.lv 1) none (.lv 1))]) [.ret (.tup [(.con (.bool true)), (.lv 0)])] [],
  .bad,
  .ret (.tup [(.con (.bool false)), (.call (.gl 14) [(.str 51), (.bin .add (.lst [.bad, (.tup [(.str 47), (.tup [(.str 2), (.sub (.lv 0) (.int 1))])])]) (.lv 2))])])])
/-- quoted: [tree, tasks, done, is_ready, node, depth, many, kids, part, is_plain, found, len, joined_parts, put_in, inner_depth, is_expr, MacroFault, plain_maker] -/
noncomputable def f333 : List Nat × Nat × List MS := ([0], 18, [
  .asgT [1, 2] (.tup [(.lst [(.tup [(.con (.bool false)), (.lv 0), (.int 1)])]), (.lst [])]),
  .whl (.cmp .ne (.lv 1) (.lst [])) [.asgT [3, 4, 5] (.meth (.lv 1) 25 []), .iff (.lv 3) [.asg 6 (.call (.gl 4) [(.sub (.lv 4) (.int 2))]), .asg 7 (.slc (.lv 2) (some (.bin .sub (.call (.gl 4) [(.lv 2)]) (.lv 6))) none false), .asg 2 (.slc (.lv 2) none (some (.bin .sub (.call (.gl 4) [(.lv 2)]) (.lv 6))) false), .ex (.meth (.lv 2) 31 [(.call (.gl 25) [(.lv 4), (.lv 7)])])] [.iff (.cmp .ne (.sub (.lv 4) (.int 0)) (.str 0)) [.ex (.meth (.lv 2) 31 [(.tup [(.con (.bool true)), (.lv 4)])])] [.iff (.and (.cmp .eq (.sub (.lv 4) (.int 1)) (.str 49)) (.cmp .eq (.lv 5) (.int 1))) [.ex (.meth (.lv 2) 31 [(.tup [(.con (.bool false)), (.call (.gl 24) [(.lv 4)])])])] [.ex (.meth (.lv 1) 31 [(.tup [(.con (.bool true)), (.lv 4), (.lv 5)])]), .for_ 8 (.slc (.sub (.lv 4) (.int 2)) none none true) [.ex (.meth (.lv 1) 31 [(.tup [(.con (.bool false)), (.lv 8), (.call (.gl 23) [(.sub (.lv 4) (.int 1)), (.lv 5)])])])]]]]],
  .asgT [9, 10] (.sub (.lv 2) (.int 0)),
  .iff (.and (.not (.lv 9)) (.call (.gl 15) [(.lv 10), (.str 52)])) [.rai (.str 53)] [],
  .ret (.ite (.lv 9) (.call (.gl 22) [(.lv 10)]) (.lv 10))])
/-- Expander.told: [self, call, name, deed, MacroFault, renamed_locals, list] -/
noncomputable def f354 : List Nat × Nat × List MS := ([0, 1], 7, [
  .asg 2 (.sub (.sub (.sub (.lv 1) (.int 2)) (.int 0)) (.int 1)),
  .iff (.cmp .notin (.lv 2) (.attr (.lv 0) 54)) [.rai (.bin .add (.str 57) (.lv 2))] [],
  .iff (.cmp .le (.attr (.lv 0) 55) (.int 0)) [.rai (.str 56)] [],
  .setA (.lv 0) 55 (.bin .sub (.attr (.lv 0) 55) (.int 1)),
  .asg 3 (.sub (.attr (.lv 0) 54) (.lv 2)),
  .ret (.call (.gl 21) [(.call (.lv 3) [(.call (.gl 1) [(.slc (.sub (.lv 1) (.int 2)) (some (.int 1)) none false)])]), (.attr (.lv 0) 32)])])
/-- Expander.settled: [self, tree, quoted, MacroFault] -/
noncomputable def f361 : List Nat × Nat × List MS := ([0, 1], 4, [
  .whl (.and (.cmp .eq (.sub (.lv 1) (.int 0)) (.str 0)) (.cmp .isin (.sub (.lv 1) (.int 1)) (.tup [(.str 41), (.str 13), (.str 14)]))) [.iff (.cmp .eq (.sub (.lv 1) (.int 1)) (.str 41)) [.asg 1 (.meth (.lv 0) 59 [(.lv 1)])] [.asg 1 (.ite (.cmp .eq (.sub (.lv 1) (.int 1)) (.str 13)) (.call (.gl 26) [(.sub (.sub (.lv 1) (.int 2)) (.int 0))]) (.sub (.sub (.lv 1) (.int 2)) (.int 0)))]],
  .iff (.and (.cmp .eq (.sub (.lv 1) (.int 0)) (.str 0)) (.cmp .eq (.sub (.lv 1) (.int 1)) (.str 49))) [.rai (.str 58)] [],
  .ret (.lv 1)])
/-- Expander.run: [self, tree, tasks, done, is_ready, node, many, kids, here, part, len, expr] -/
noncomputable def f368 : List Nat × Nat × List MS := ([0, 1], 12, [
  .asgT [2, 3] (.tup [(.lst [(.tup [(.con (.bool false)), (.lv 1)])]), (.lst [])]),
  .whl (.cmp .ne (.lv 2) (.lst [])) [.asgT [4, 5] (.meth (.lv 2) 25 []), .iff (.lv 4) [.asg 6 (.call (.gl 4) [(.sub (.lv 5) (.int 2))]), .asg 7 (.slc (.lv 3) (some (.bin .sub (.call (.gl 4) [(.lv 3)]) (.lv 6))) none false), .asg 3 (.slc (.lv 3) none (some (.bin .sub (.call (.gl 4) [(.lv 3)]) (.lv 6))) false), .ex (.meth (.lv 3) 31 [(.call (.gl 14) [(.sub (.lv 5) (.int 1)), (.lv 7)])]), .cnt] [], .asg 8 (.meth (.lv 0) 60 [(.lv 5)]), .iff (.cmp .ne (.sub (.lv 8) (.int 0)) (.str 0)) [.ex (.meth (.lv 3) 31 [(.lv 8)])] [.ex (.meth (.lv 2) 31 [(.tup [(.con (.bool true)), (.lv 8)])]), .for_ 9 (.slc (.sub (.lv 8) (.int 2)) none none true) [.ex (.meth (.lv 2) 31 [(.tup [(.con (.bool false)), (.lv 9)])])]]],
  .ret (.sub (.lv 3) (.int 0))])
/-- expanded: [tree, macros, supply, fuel, Expander] -/
noncomputable def f383 : List Nat × Nat × List MS := ([0, 1, 2, 3], 5, [
  .ret (.meth (.call (.gl 13) [(.lv 1), (.lv 2), (.lv 3)]) 61 [(.lv 0)])])
/-- _law_bag: [script, turn, cell, worth, len, int] -/
noncomputable def f390 : List Nat × Nat × List MS := ([0, 1], 6, [
  .asg 2 (.ite (.cmp .lt (.lv 1) (.call (.gl 4) [(.lv 0)])) (.sub (.lv 0) (.lv 1)) (.int 0)),
  .asg 3 (.ite (.cmp .ge (.lv 2) (.int 0)) (.lv 2) (.neg (.lv 2))),
  .ret (.lst [(.ite (.cmp .ge (.lv 3) (.bin .pow (.int 10) (.int 15))) (.lv 3) (.int 0)), (.bin .mod (.bin .add (.bin .add (.bin .add (.bin .mul (.bin .mod (.lv 3) (.int 999979)) (.int 197)) (.bin .mul (.int 61) (.lv 1))) (.bin .mul (.int 13) (.call (.gl 3) [(.cmp .lt (.lv 2) (.int 0))]))) (.int 3)) (.int 65497))])])
/-- _law_pick: [bag, many, part] -/
noncomputable def f397 : List Nat × Nat × List MS := ([0, 1], 3, [
  .iff (.cmp .gt (.sub (.lv 0) (.int 0)) (.int 0)) [.asg 2 (.bin .mod (.sub (.lv 0) (.int 0)) (.lv 1)), .setI (.lv 0) (.int 0) (.bin .fdiv (.sub (.lv 0) (.int 0)) (.lv 1)), .ret (.lv 2)] [],
  .setI (.lv 0) (.int 1) (.bin .mod (.bin .add (.bin .mul (.sub (.lv 0) (.int 1)) (.int 139)) (.int 9187)) (.int 65497)),
  .ret (.bin .mod (.bin .fdiv (.sub (.lv 0) (.int 1)) (.int 11)) (.lv 1))])
/-- _law_kept: [tree] -/
noncomputable def f404 : List Nat × Nat × List MS := ([0], 1, [
  .ret (.tup [(.str 0), (.str 14), (.tup [(.lv 0)])])])
/-- _law_tree: [bag, high, way, name, things, _law_pick, _law_tree, tuple] -/
noncomputable def f418 : List Nat × Nat × List MS := ([0, 1], 8, [
  .asg 2 (.ite (.cmp .gt (.lv 1) (.int 0)) (.call (.gl 29) [(.lv 0), (.int 9)]) (.call (.gl 29) [(.lv 0), (.int 2)])),
  .iff (.cmp .lt (.lv 2) (.int 2)) [.ret (.sub (.lst [(.tup [(.str 2), (.str 70)]), (.tup [(.str 71), (.int 4)])]) (.lv 2))] [],
  .iff (.cmp .eq (.lv 2) (.int 2)) [.ret (.tup [(.str 0), (.str 51), (.tup [(.tup [(.str 2), (.str 72)]), (.call (.gl 32) [(.lv 0), (.bin .sub (.lv 1) (.int 1))]), (.call (.gl 32) [(.lv 0), (.bin .sub (.lv 1) (.int 1))])])])] [],
  .iff (.cmp .eq (.lv 2) (.int 3)) [.ret (.tup [(.str 0), (.str 13), (.tup [(.call (.gl 32) [(.lv 0), (.bin .sub (.lv 1) (.int 1))])])])] [],
  .iff (.cmp .eq (.lv 2) (.int 4)) [.ret (.tup [(.str 0), (.str 68), (.tup [(.call (.gl 32) [(.lv 0), (.bin .sub (.lv 1) (.int 1))])])])] [],
  .asg 3 (.sub (.lst [(.str 62), (.str 63), (.str 64), (.str 65), (.str 66)]) (.call (.gl 29) [(.lv 0), (.int 5)])),
  .asg 4 (.lst [(.call (.gl 32) [(.lv 0), (.bin .sub (.lv 1) (.int 1))])]),
  .iff (.cmp .eq (.lv 3) (.str 64)) [.ex (.meth (.lv 4) 31 [(.call (.gl 32) [(.lv 0), (.bin .sub (.lv 1) (.int 1))])])] [],
  .ret (.tup [(.str 0), (.str 41), (.bin .add (.tup [(.tup [(.str 2), (.lv 3)])]) (.call (.gl 0) [(.lv 4)]))])])
/-- _law_constant: [tree] -/
noncomputable def f425 : List Nat × Nat × List MS := ([0], 1, [
  .iff (.cmp .eq (.sub (.lv 0) (.int 0)) (.str 2)) [.ret (.tup [(.str 47), (.lv 0)])] [],
  .ret (.ite (.cmp .eq (.sub (.lv 0) (.int 0)) (.str 0)) (.tup [(.str 47), (.tup [(.str 48), (.lv 0)])]) (.lv 0))])
/-- _law_due: [tree, met_here, name, thing, _law_constant, tuple, _law_due] -/
noncomputable def f430 : List Nat × Nat × List MS := ([0, 1], 7, [
  .iff (.cmp .ne (.sub (.lv 0) (.int 0)) (.str 0)) [.ret (.lv 0)] [],
  .iff (.cmp .eq (.sub (.lv 0) (.int 1)) (.str 13)) [.ret (.call (.gl 33) [(.sub (.sub (.lv 0) (.int 2)) (.int 0))])] [],
  .iff (.cmp .ne (.sub (.lv 0) (.int 1)) (.str 41)) [.ret (.tup [(.str 0), (.sub (.lv 0) (.int 1)), (.call (.gl 0) [(.comp [1] [(1, 3)] 4 (.call (.gl 34) [(.lv 1), (.lv 3)]) none (.sub (.lv 0) (.int 2)))])])] [],
  .asgT [2, 3] (.tup [(.sub (.sub (.sub (.lv 0) (.int 2)) (.int 0)) (.int 1)), (.sub (.sub (.lv 0) (.int 2)) (.int 1))]),
  .ex (.meth (.lv 1) 31 [(.lv 2)]),
  .iff (.cmp .isin (.lv 2) (.tup [(.str 62), (.str 64)])) [.ret (.call (.gl 34) [(.lv 3), (.lv 1)])] [],
  .iff (.cmp .eq (.lv 2) (.str 63)) [.ret (.tup [(.str 0), (.str 68), (.tup [(.call (.gl 34) [(.lv 3), (.lv 1)]), (.call (.gl 34) [(.lv 3), (.lv 1)])])])] [],
  .iff (.cmp .eq (.lv 2) (.str 65)) [.ex (.meth (.lv 1) 31 [(.str 62)]), .ret (.tup [(.str 0), (.str 51), (.tup [(.tup [(.str 2), (.str 69)]), (.call (.gl 34) [(.lv 3), (.lv 1)])])])] [],
  .ret (.call (.gl 33) [(.lv 3)])])
/-- _law_is_clean: [tree] -/
noncomputable def f435 : List Nat × Nat × List MS := ([0], 1, [
  .iff (.cmp .ne (.sub (.lv 0) (.int 0)) (.str 0)) [.ret (.con (.bool true))] [],
  .iff (.cmp .isin (.sub (.lv 0) (.int 1)) (.tup [(.str 41), (.str 13), (.str 14), (.str 49)])) [.ret (.con (.bool false))] [],
  .ret (.cmp .eq (.comp [1] [] 3 (.lv 1) (some (.not (.call (.gl 35) [(.lv 1)]))) (.sub (.lv 0) (.int 2))) (.lst []))])
/-- _law_refused: [tree, fuel, expanded, _law_macros, NameSupply, MacroFault] -/
noncomputable def f442 : List Nat × Nat × List MS := ([0, 1], 6, [
  .tr [.ex (.call (.gl 27) [(.lv 0), (.call (.gl 31) []), (.call (.gl 11) []), (.lv 1)])] [.ret (.con (.bool true))],
  .ret (.con (.bool false))])
/-- law: [script, tree, chain, turn, bag, met_here, due, told, _law_refused, expanded, _law_macros, NameSupply, range, max, min, len, _law_bag, _law_tree, _law_due, _law_is_clean] -/
noncomputable def f449 : List Nat × Nat × List MS := ([0], 20, [
  .for_ 1 (.lst [(.tup [(.str 0), (.str 41), (.tup [(.tup [(.str 2), (.str 73)]), (.tup [(.str 71), (.int 1)])])]), (.tup [(.str 0), (.str 41), (.tup [(.tup [(.str 2), (.str 67)])])])]) [.iff (.not (.call (.gl 36) [(.tup [(.str 0), (.str 68), (.tup [(.lv 1)])]), (.int 20)])) [.ret (.con (.bool false))] []],
  .asg 2 (.tup [(.str 0), (.str 41), (.tup [(.tup [(.str 2), (.str 62)]), (.tup [(.str 0), (.str 41), (.tup [(.tup [(.str 2), (.str 65)]), (.tup [(.str 2), (.str 70)])])])])]),
  .iff (.cmp .ne (.call (.gl 27) [(.lv 2), (.call (.gl 31) []), (.call (.gl 11) []), (.int 3)]) (.tup [(.str 0), (.str 51), (.tup [(.tup [(.str 2), (.str 69)]), (.tup [(.str 2), (.str 70)])])])) [.ret (.con (.bool false))] [],
  .iff (.or (.not (.call (.gl 36) [(.lv 2), (.int 2)])) (.not (.call (.gl 36) [(.tup [(.str 0), (.str 49), (.tup [(.tup [(.str 2), (.str 70)])])]), (.int 9)]))) [.ret (.con (.bool false))] [],
  .forR 3 (.call (.gl 6) [(.int 1), (.call (.gl 7) [(.call (.gl 4) [(.lv 0)]), (.int 2)])]) [.asgT [4, 5] (.tup [(.call (.gl 28) [(.lv 0), (.lv 3)]), (.lst [])]), .asg 1 (.tup [(.str 0), (.str 68), (.tup [(.call (.gl 32) [(.lv 4), (.int 4)]), (.call (.gl 32) [(.lv 4), (.int 3)])])]), .asg 6 (.call (.gl 34) [(.lv 1), (.lv 5)]), .asg 7 (.call (.gl 27) [(.lv 1), (.call (.gl 31) []), (.call (.gl 11) []), (.call (.gl 4) [(.lv 5)])]), .iff (.or (.cmp .ne (.lv 7) (.lv 6)) (.not (.call (.gl 35) [(.lv 7)]))) [.ret (.con (.bool false))] [], .iff (.and (.cmp .ne (.lv 5) (.lst [])) (.not (.call (.gl 36) [(.lv 1), (.bin .sub (.call (.gl 4) [(.lv 5)]) (.int 1))]))) [.ret (.con (.bool false))] []],
  .ret (.con (.bool true))])
end Mine
namespace Mine
/-! ## the functions, run on the abstract machine -/
noncomputable def fnList : List (Nat × List Nat × Nat × List MS) := [(152, f152), (187, f187), (347, f347), (54, f54), (61, f61), (68, f68), (75, f75), (82, f82), (103, f103), (173, f173), (194, f194), (201, f201), (208, f208), (213, f213), (220, f220), (225, f225), (232, f232), (291, f291), (300, f300), (314, f314), (321, f321), (326, f326), (333, f333), (354, f354), (361, f361), (368, f368), (383, f383), (390, f390), (397, f397), (404, f404), (418, f418), (425, f425), (430, f430), (435, f435), (442, f442), (449, f449)]
noncomputable def fnOf (a : Nat) : Option (List Nat × Nat × List MS) := fnList.lookup a
/-- the six lambdas -/
noncomputable def lamBody : Nat → Option ME := fun y1_ => match y1_ with
  | 0 => some (.call (.gl 30) [.sub (.lv 0) (.int 0)])
  | 1 => some (.tup [.str 0, .str 68, .tup [.call (.gl 30) [.sub (.lv 0) (.int 0)], .call (.gl 30) [.sub (.lv 0) (.int 0)]]])
  | 2 => some (.call (.gl 30) [.sub (.lv 0) (.int 0)])
  | 3 => some (.tup [.str 0, .str 51, .tup [.tup [.str 2, .str 69], .tup [.str 0, .str 41, .tup [.tup [.str 2, .str 62], .call (.gl 30) [.sub (.lv 0) (.int 0)]]]]])
  | 4 => some (.tup [.str 0, .str 13, .tup [.sub (.lv 0) (.int 0)]])
  | 5 => some (.tup [.str 0, .str 41, .tup [.tup [.str 2, .str 67]]])
  | z1_ => none
noncomputable def lamLen (k : Nat) : Nat := if k < 4 then 2 else 1
noncomputable def macO : List MO := [.dct [(62, .loc 1), (63, .loc 2), (64, .loc 3), (65, .loc 4), (66, .loc 5), (67, .loc 6)], .fn 0, .fn 1, .fn 2, .fn 3, .fn 4, .fn 5]
noncomputable def SpF (ns : List Int) : Nat → Spec := fun y1_ => match y1_ with
  | 0 => fun z_ z_ z_ z_ z_ z_ => False
  | n + 1 => fun r a vs σp Q X => 4 * (n + 1) ≤ r ∧
      if a < 1000 then (if a = 411 then vs = [] ∧ σp = [] ∧ Q (.loc 0) [] macO else onP (fnOf a) fun f => vcDef (SpF ns n) (r - 1) ns f vs σp Q X)
      else onP (lamBody (a - 1000)) fun e => vcLam (SpF ns n) (r - 1) ns ([0], lamLen (a - 1000), e) vs σp Q X
section
variable {Sp : Spec} {r np n : Nat} {ns : List Int} {X : Prop} {ρ : List (Option MV)} {σ σ' : List MO} {c : AS} {Q : MV → AS → Prop} {B : Bool → AS → Prop} {F : Fl → AS → Prop} {L : List MV → AS → Prop} {P : Prop}
theorem on {α : Type} {o : Option α} {a : α} {P : α → Prop} (e : o = some a) (h : P a) : onP o P := by rw [e]; exact h
theorem e_con {v} (h : Q (.p (.con v)) c) : vcE Sp r ns X (.con v) c Q := h
theorem e_int {i} (h : Q (mI i) c) : vcE Sp r ns X (.int i) c Q := h
theorem e_str {k} (h : Q (mS k) c) : vcE Sp r ns X (.str k) c Q := h
theorem e_lv {i v} (e : ρ.getD i none = some v) (h : Q v ⟨ρ, σ⟩) : vcE Sp r ns X (.lv i) ⟨ρ, σ⟩ Q := by rw [E_lv]; exact on e h
theorem e_gl {k v} (e : gPV k = some v) (h : Q (.p v) c) : vcE Sp r ns X (.gl k) c Q := by rw [E_gl]; exact on e h
theorem e_not {e} (h : vcT Sp r ns X e c fun b c₁ => Q (mB (!b)) c₁) (h' : vcT Sp r ns X e c (fun b c₁ => Q (mB (!b)) c₁) → vcE Sp r ns X (.not e) c Q) : vcE Sp r ns X (.not e) c Q := h' h
theorem e_neg {e} (h : vcE Sp r ns X e c fun v c₁ => onP (asInt v) fun i => Q (mI (-i)) c₁) : vcE Sp r ns X (.neg e) c Q := h
theorem e_and {a b} (h : vcE Sp r ns X a c fun v c₁ => onP (vTruth v) fun t => if t then vcE Sp r ns X b c₁ Q else Q v c₁) : vcE Sp r ns X (.and a b) c Q := h
theorem e_ite {t a b} (h : vcT Sp r ns X t c fun x c₁ => if x then vcE Sp r ns X a c₁ Q else vcE Sp r ns X b c₁ Q) : vcE Sp r ns X (.ite t a b) c Q := h
theorem e_cmp {op a b} (h : vcE Sp r ns X a c fun v c₁ => vcE Sp r ns X b c₁ fun w c₂ => onP (vCmp c₂.σ op v w) fun t => Q (mB t) c₂) : vcE Sp r ns X (.cmp op a b) c Q := h
theorem e_bin {op a b} (h : vcE Sp r ns X a c fun v c₁ => vcE Sp r ns X b c₁ fun w c₂ => onP (vBin c₂.σ op v w) fun q => Q q.1 ⟨c₂.ρ, q.2⟩) : vcE Sp r ns X (.bin op a b) c Q := h
theorem e_sub {a i} (h : vcE Sp r ns X a c fun v c₁ => vcE Sp r ns X i c₁ fun w c₂ => onP (vSub ns c₂.σ v w) fun q => Q q c₂) : vcE Sp r ns X (.sub a i) c Q := h
theorem e_slc {a lo hi rev} (h : vcE Sp r ns X a c fun v c₁ => vcO Sp r ns X lo c₁ fun x c₂ => vcO Sp r ns X hi c₂ fun y c₃ => onP (vCut c₃.σ x y rev v) fun q => Q q.1 ⟨c₃.ρ, q.2⟩) : vcE Sp r ns X (.slc a lo hi rev) c Q := h
theorem e_attr {o k} (h : vcE Sp r ns X o c fun v c₁ => onP (vGetA c₁.σ k v) fun q => Q q c₁) : vcE Sp r ns X (.attr o k) c Q := h
theorem e_meth {o k args} (h : vcE Sp r ns X o c fun ov c₁ => onP (methKind c₁.σ ov k) fun m => vcL Sp r ns X args c₁ fun vs c₂ =>
      match m with
      | .fn a => vcFn Sp r a (ov :: vs) X c₂ Q
      | m => onP (vMeth c₂.σ m ov vs) fun q => Q q.1 ⟨c₂.ρ, q.2⟩) : vcE Sp r ns X (.meth o k args) c Q := h
theorem e_call {f args} (h : vcE Sp r ns X f c fun fv c₁ => vcL Sp r ns X args c₁ fun vs c₂ => vcCall Sp r ns fv vs X c₂ Q) : vcE Sp r ns X (.call f args) c Q := h
theorem e_tup {es} (h : vcL Sp r ns X es c fun vs c₁ => vs.length ≤ lim ∧ Q (mkTup vs) c₁) : vcE Sp r ns X (.tup es) c Q := h
theorem e_lst {es} (h : vcL Sp r ns X es c fun vs c₁ => onP (allP vs) fun l => l.length ≤ lim ∧ Q (.loc c₁.σ.length) ⟨c₁.ρ, c₁.σ ++ [.lst l]⟩) : vcE Sp r ns X (.lst es) c Q := h
theorem e_dct0 (h : Q (.loc c.σ.length) ⟨c.ρ, c.σ ++ [.dct []]⟩) : vcE Sp r ns X .dct0 c Q := h
theorem e_comp {tg cap ln elt cond src} (h : vcE Sp r ns X src c fun v c₁ => onP (iterOf c₁.σ v) fun l => l.length ≤ lim ∧
      vcComp (vcE Sp r ns False elt) (vcC Sp r ns False cond) (stillAt v c₁.σ) tg c₁.σ.length l
        ⟨capR c₁.ρ cap ln, c₁.σ ++ [.lst []]⟩ fun c₂ => Q (.loc c₁.σ.length) ⟨c₁.ρ, c₂.σ⟩) : vcE Sp r ns X (.comp tg cap ln elt cond src) c Q := h
theorem l_nil (h : L [] c) : vcL Sp r ns X [] c L := h
theorem l_cons {e es} (h : vcE Sp r ns X e c fun v c₁ => vcL Sp r ns X es c₁ fun vs c₂ => L (v :: vs) c₂) : vcL Sp r ns X (e :: es) c L := h
theorem o_none {O : Option Int → AS → Prop} (h : O none c) : vcO Sp r ns X none c O := h
theorem o_some {e} {O : Option Int → AS → Prop} (h : vcE Sp r ns X e c fun v c₁ => onP (asInt v) fun i => O (some i) c₁) : vcO Sp r ns X (some e) c O := h
theorem k_none (h : B true c) : vcC Sp r ns X none c B := h
theorem k_some {e} (h : vcT Sp r ns X e c B) : vcC Sp r ns X (some e) c B := h
theorem t_not {e} (h : vcT Sp r ns X e c fun b c₁ => B (!b) c₁) : vcT Sp r ns X (.not e) c B := h
theorem t_and {a b} (h : vcT Sp r ns X a c fun t c₁ => if t then vcT Sp r ns X b c₁ B else B false c₁) : vcT Sp r ns X (.and a b) c B := h
theorem t_or {a b} (h : vcT Sp r ns X a c fun t c₁ => if t then B true c₁ else vcT Sp r ns X b c₁ B) : vcT Sp r ns X (.or a b) c B := h
theorem t_cmp {op a b} (h : vcE Sp r ns X a c fun v c₁ => vcE Sp r ns X b c₁ fun w c₂ => onP (vCmp c₂.σ op v w) fun t => B t c₂) : vcT Sp r ns X (.cmp op a b) c B := h
theorem t_lv {i v b} (e : ρ.getD i none = some v) (e' : vTruth v = some b) (h : B b ⟨ρ, σ⟩) : vcT Sp r ns X (.lv i) ⟨ρ, σ⟩ B := by rw [T_lv]; exact on e (on e' h)
theorem t_con {v b} (e : vTruth (.p (.con v)) = some b) (h : B b c) : vcT Sp r ns X (.con v) c B := by rw [T_con]; exact on e h
theorem t_call {f args} (h : vcE Sp r ns X f c fun fv c₁ => vcL Sp r ns X args c₁ fun vs c₂ => vcCall Sp r ns fv vs X c₂ fun v c₃ => onP (vTruth v) fun b => B b c₃) : vcT Sp r ns X (.call f args) c B := h
theorem if_t {b : Bool} {P R : Prop} (e : b = true) (h : P) : if b = true then P else R := by rw [if_pos e]; exact h
theorem if_f {b : Bool} {P R : Prop} (e : b = false) (h : R) : if b = true then P else R := by rw [if_neg (by rw [e]; exact Bool.false_ne_true)]; exact h
theorem h_le {a : Nat} {R : Prop} (e : Nat.ble a lim = true) (h : R) : a ≤ lim ∧ R := ⟨Nat.le_of_ble_eq_true e, h⟩
theorem h_le' {a : Nat} {R : Prop} (e : a ≤ lim) (h : R) : a ≤ lim ∧ R := ⟨e, h⟩
theorem h_eq {a : Nat} {R : Prop} (h : R) : a = a ∧ R := ⟨rfl, h⟩
theorem h_and {P R : Prop} (e : P) (h : R) : P ∧ R := ⟨e, h⟩
/-! calls -/
theorem c_cal {k vs q} (e : vPrim ns σ k vs = some q) (h : Q q.1 ⟨ρ, q.2⟩) : vcCall Sp r ns (.p (.cal k)) vs X ⟨ρ, σ⟩ Q := by
  unfold vcCall
  exact on (P := fun q => Q q.1 ⟨ρ, q.2⟩) e h
theorem c_fnc {a vs} (e : a < 1000) (h : vcFn Sp r a vs X c Q) : vcCall Sp r ns (.p (.fnc a)) vs X c Q := ⟨e, h⟩
theorem c_cls {C vs ini} (e : initOf C = some ini) (hr : 3 ≤ r) (h : vcFn Sp (r - 3) ini (.loc (c.σ.length + 1) :: vs) False ⟨c.ρ, c.σ ++ [.dct [], .inst C c.σ.length]⟩ fun v c' => v = mN ∧ Q (.loc (c.σ.length + 1)) c') : vcCall Sp r ns (.p (.cls C)) vs X c Q := by
  unfold vcCall
  exact on e ⟨hr, h⟩
theorem c_loc {j k vs} (e : σ[j]? = some (.fn k)) (h : vcFn Sp r (1000 + k) vs X ⟨ρ, σ⟩ Q) : vcCall Sp r ns (.loc j) vs X ⟨ρ, σ⟩ Q := by
  unfold vcCall
  dsimp only
  rw [e]
  exact h
theorem c_fn {a vs sel ws σp} (e : handOver σ vs = some (sel, ws, σp)) (h : Sp r a ws σp (fun v σp' σn => Q (renV (backId sel σ.length) v) ⟨ρ, takeBack σ sel σp' σn⟩) X) : vcFn Sp r a vs X ⟨ρ, σ⟩ Q := by
  unfold vcFn
  exact on e h
/-! statements -/
theorem s_asg {i e} (h : vcE Sp r ns X e c fun v c₁ => F .nxt ⟨c₁.ρ.set i (some v), c₁.σ⟩) : vcS Sp r ns np (.asg i e) X c F := h
theorem s_asgT {is e} (h : vcE Sp r ns X e c fun v c₁ => onP (itemsV v) fun l => l.length = is.length ∧ F .nxt ⟨setAll c₁.ρ is l, c₁.σ⟩) : vcS Sp r ns np (.asgT is e) X c F := h
theorem s_setA {o k e} (h : vcE Sp r ns X e c fun v c₁ => vcE Sp r ns X o c₁ fun ov c₂ => onP (vSetA c₂.σ k v ov) fun σ' => F .nxt ⟨c₂.ρ, σ'⟩) : vcS Sp r ns np (.setA o k e) X c F := h
theorem s_setI {o i e} (h : vcE Sp r ns X e c fun v c₁ => vcE Sp r ns X o c₁ fun ov c₂ => vcE Sp r ns X i c₂ fun iv c₃ => onP (vSetI c₃.σ ov iv v) fun σ' => F .nxt ⟨c₃.ρ, σ'⟩) : vcS Sp r ns np (.setI o i e) X c F := h
theorem s_ex {e} (h : vcE Sp r ns X e c fun z_ c₁ => F .nxt c₁) : vcS Sp r ns np (.ex e) X c F := h
theorem s_iff {t a b} (h : vcT Sp r ns X t c fun x c₁ => if x then vcB Sp r ns np a X c₁ F else vcB Sp r ns np b X c₁ F) : vcS Sp r ns np (.iff t a b) X c F := h
theorem s_for {i it b} (h : vcE Sp r ns X it c fun v c₁ => onP (iterOf c₁.σ v) fun l => l.length ≤ lim ∧ vcTurns (vcB Sp r ns c₁.σ.length b False) (stillAt v c₁.σ) i l c₁ F) : vcS Sp r ns np (.for_ i it b) X c F := h
theorem s_forR {i e b} (h : vcE Sp r ns X e c fun v c₁ => onP (asInt v) fun k => (0 ≤ k ∧ k ≤ lim) ∧ vcTurns (vcB Sp r ns np b False) (fun z_ => True) i (rangeP k) c₁ F) : vcS Sp r ns np (.forR i e b) X c F := h
theorem s_ret {e} (h : vcE Sp r ns X e c fun v c₁ => F (.ret v) c₁) : vcS Sp r ns np (.ret e) X c F := h
theorem s_rai {e} (h : vcE Sp r ns X e c fun z_ z_ => X) : vcS Sp r ns np (.rai e) X c F := h
theorem s_cnt (h : F .cnt c) : vcS Sp r ns np .cnt X c F := h
theorem s_tr {b h'} (h0 : np = 0) (h : vcB Sp r ns np b (vcB Sp r ns np h' X ⟨List.replicate c.ρ.length none, []⟩ (thenH F)) c F) : vcS Sp r ns np (.tr b h') X c F := And.intro h0 h
theorem b_nil (h : F .nxt c) : vcB Sp r ns np [] X c F := h
theorem b_cons {s rest} (h : vcS Sp r ns np s X c (thenS (fun c₁ => vcB Sp r ns np rest X c₁ F) F)) : vcB Sp r ns np (s :: rest) X c F := h
theorem ts_nxt {k} (h : k c) : thenS k F .nxt c := h
theorem ts_cnt {k} (h : F .cnt c) : thenS k F .cnt c := h
theorem ts_ret {k v} (h : F (.ret v) c) : thenS k F (.ret v) c := h
theorem tw_nxt {k} (h : k c) : thenW k F .nxt c := h
theorem tw_cnt {k} (h : k c) : thenW k F .cnt c := h
theorem tw_ret {k v} (h : F (.ret v) c) : thenW k F (.ret v) c := h
theorem th_ret {v} (h : F (.ret v) c) : thenH F (.ret v) c := h
theorem u_nil {f chk i} (h : F .nxt c) : vcTurns f chk i [] c F := h
theorem u_cons {f : AS → (Fl → AS → Prop) → Prop} {chk i x xs} (h : f ⟨ρ.set i (some (.p x)), σ⟩ (thenW (fun c₁ => chk c₁.σ ∧ vcTurns f chk i xs c₁ F) F)) : vcTurns f chk i (x :: xs) ⟨ρ, σ⟩ F := h
theorem hb {v np w σ₂ ρ₂} {R : MV → List MO → List MO → Prop} (e : norm np [] [v] c = some (⟨ρ₂, σ₂⟩, [w])) (h : R w (σ₂.take np) (σ₂.drop np)) : handBack np v c R := by
  unfold handBack
  exact on e (on rfl h)
/-- the turns of a while, counted -/
noncomputable def U (Sp : Spec) (r : Nat) (ns : List Int) (np : Nat) (t : ME) (b : List MS) (keep : List Nat) (X : Prop) (F : Fl → AS → Prop) : Nat → AS → Prop :=
  WellFounded.fix (C := fun _ => AS → Prop) Nat.lt_wfRel.wf fun m U c =>
    vcT Sp r ns X t c fun x c₁ => if x then vcB Sp r ns np b X c₁ (thenW (fun c₂ => onP (norm np keep [] c₂) fun q => ∃ m', ∃ h : m' < m, U m' h q.1) F) else F .nxt c₁
theorem U_is {Sp : Spec} {r : Nat} {ns : List Int} {np : Nat} {t : ME} {b : List MS} {keep : List Nat} {X : Prop} {F : Fl → AS → Prop} {m : Nat} {c : AS} : U Sp r ns np t b keep X F m c =
    vcT Sp r ns X t c fun x c₁ => if x then vcB Sp r ns np b X c₁ (thenW (fun c₂ => onP (norm np keep [] c₂) fun q => ∃ m', ∃ _ : m' < m, U Sp r ns np t b keep X F m' q.1) F) else F .nxt c₁ := by
  unfold U
  rw [WellFounded.fix_eq]
theorem s_whl {t b} (keep : List Nat) (m : Nat) {q} (e : norm np keep [] c = some q) (h : U Sp r ns np t b keep X F m q.1) : vcS Sp r ns np (.whl t b) X c F := by
  refine Exists.intro (fun c m => U Sp r ns np t b keep X F m c) ⟨keep, m, on e h, fun c₀ m hU => ?_⟩
  have hU : U Sp r ns np t b keep X F m c₀ := hU
  rw [U_is] at hU
  simp only [exists_prop] at hU
  exact hU
theorem u_step {t b keep m} (h : vcT Sp r ns X t c fun x c₁ => if x then vcB Sp r ns np b X c₁ (thenW (fun c₂ => onP (norm np keep [] c₂) fun q => ∃ m', ∃ _ : m' < m, U Sp r ns np t b keep X F m' q.1) F) else F .nxt c₁) : U Sp r ns np t b keep X F m c := by rw [U_is]; exact h
theorem u_next {t b keep m m' ρ₂ σ₂} (hm : m' < m) (e : norm np keep [] c = some (⟨ρ₂, σ₂⟩, [])) (h : U Sp r ns np t b keep X F m' ⟨ρ₂, σ₂⟩) : onP (norm np keep [] c) fun q => ∃ m', ∃ _ : m' < m, U Sp r ns np t b keep X F m' q.1 := on e ⟨m', hm, h⟩
/-! a function -/
theorem sp_def {a ps ln body vs σp np ρ} {R : MV → List MO → List MO → Prop} (e : fnOf a = some (ps, ln, body)) (h1 : Nat.blt a 1000 = true) (h2 : (a == 411) = false) (hn : 1 ≤ n) (hr : 4 * n ≤ r) (hl : vs.length = ps.length) (en : σp.length = np) (eρ : bindPs ln ps vs = ρ)
    (h : ∀ m r', n = m + 1 → 4 * m + 3 ≤ r' → vcB (SpF ns m) r' ns np body X ⟨ρ, σp⟩ fun fl c => handBack np fl.val c R) : SpF ns n r a vs σp R X := by
  subst en
  subst eρ
  have h1 : a < 1000 := Nat.le_of_ble_eq_true h1
  have h2 : a ≠ 411 := by simpa using h2
  obtain ⟨m, rfl⟩ : ∃ m, n = m + 1 := ⟨n - 1, by omega⟩
  refine ⟨hr, ?_⟩
  rw [if_pos h1, if_neg h2]
  exact on e ⟨hl, h m (r - 1) rfl (by omega)⟩
theorem sp_lam {k e vs σp np ρ} {R : MV → List MO → List MO → Prop} (e' : lamBody k = some e) (hn : 1 ≤ n) (hr : 4 * n ≤ r) (hl : vs.length = 1) (en : σp.length = np) (eρ : bindPs (lamLen k) [0] vs = ρ)
    (h : ∀ m r', n = m + 1 → 4 * m + 3 ≤ r' → vcE (SpF ns m) r' ns X e ⟨ρ, σp⟩ fun v c => handBack np v c R) : SpF ns n r (1000 + k) vs σp R X := by
  subst en
  subst eρ
  obtain ⟨m, rfl⟩ : ∃ m, n = m + 1 := ⟨n - 1, by omega⟩
  refine ⟨hr, ?_⟩
  rw [if_neg (by omega), Nat.add_sub_cancel_left]
  exact on e' ⟨hl, h m (r - 1) rfl (by omega)⟩
end
end Mine
namespace Mine
/-- a jump: the goal is another, up to reckoning -/
theorem r0 {m r : Nat} (h : 4 * m + 3 ≤ r) : 4 * m ≤ r := Nat.le_trans (Nat.le_add_right _ _) h
theorem le_lit {a b n : Nat} (h : b ≤ n) (e : Nat.ble a b = true) : a ≤ n := Nat.le_trans (Nat.le_of_ble_eq_true e) h
theorem le_nm {a b n m : Nat} (hm : n = m + 1) (h : b ≤ n) (e : Nat.ble (a + 1) b = true) : a ≤ m := by
  subst hm
  exact Nat.le_of_succ_le_succ (Nat.le_trans (Nat.le_of_ble_eq_true e) h)
theorem on_someP {α : Type} {a : α} {P : α → Prop} (h : P a) : onP (some a) P := h
theorem jmp {P G : Prop} (I : Prop) (hI : (P → G) = I) (e : P = G) (h : P) : G := e ▸ h
section
variable {Sp : Spec} {r np n : Nat} {ns : List Int} {X : Prop} {ρ : List (Option MV)} {σ σ' : List MO} {c : AS} {Q : MV → AS → Prop} {B : Bool → AS → Prop} {F : Fl → AS → Prop} {L : List MV → AS → Prop} {P : Prop}
theorem on_map {α β : Type} {o : Option α} {f : α → β} {P : β → Prop} (h : onP o fun x => P (f x)) : onP (o.map f) P := by
  cases o with
  | none => exact h
  | some a => exact h
theorem on_sub {v w a} {P : MV → Prop} (e : vSub ns σ v w = some a) (h : P a) : onP (vSub ns σ v w) P := on e h
theorem on_cmp {op v w a} {P : Bool → Prop} (e : vCmp σ op v w = some a) (h : P a) : onP (vCmp σ op v w) P := on e h
theorem on_cmps {a b} {P : Bool → Prop} (h : P (a == b)) : onP (vCmp σ .eq (.p (.str a)) (.p (.str b))) P := h
theorem on_cmpn {a b} {P : Bool → Prop} (h : P (a != b)) : onP (vCmp σ .ne (.p (.str a)) (.p (.str b))) P := h
theorem on_bin {op v w a} {P : MV × List MO → Prop} (e : vBin σ op v w = some a) (h : P a) : onP (vBin σ op v w) P := on e h
theorem on_add {a b} {P : MV × List MO → Prop} (h : P (mI (a + b), σ)) : onP (vBin σ .add (.p (.int a)) (.p (.int b))) P := h
theorem on_subi {a b} {P : MV × List MO → Prop} (h : P (mI (a - b), σ)) : onP (vBin σ .sub (.p (.int a)) (.p (.int b))) P := h
theorem on_cut {lo hi rev v a} {P : MV × List MO → Prop} (e : vCut σ lo hi rev v = some a) (h : P a) : onP (vCut σ lo hi rev v) P := on e h
theorem on_truth {v a} {P : Bool → Prop} (e : vTruth v = some a) (h : P a) : onP (vTruth v) P := on e h
theorem on_int {v a} {P : Int → Prop} (e : asInt v = some a) (h : P a) : onP (asInt v) P := on e h
theorem on_kind {v k a} {P : MK → Prop} (e : methKind σ v k = some a) (h : P a) : onP (methKind σ v k) P := on e h
theorem on_getA {k v a} {P : MV → Prop} (e : vGetA σ k v = some a) (h : P a) : onP (vGetA σ k v) P := on e h
theorem on_setA {k v o a} {P : List MO → Prop} (e : vSetA σ k v o = some a) (h : P a) : onP (vSetA σ k v o) P := on e h
theorem on_items {v a} {P : List MV → Prop} (e : itemsV v = some a) (h : P a) : onP (itemsV v) P := on e h
theorem on_allP {v a} {P : List PV → Prop} (e : allP v = some a) (h : P a) : onP (allP v) P := on e h
theorem on_iter {v a} {P : List PV → Prop} (e : iterOf σ v = some a) (h : P a) : onP (iterOf σ v) P := on e h
theorem on_tg {ρ tg x a} {P : List (Option MV) → Prop} (e : bindTg ρ tg x = some a) (h : P a) : onP (bindTg ρ tg x) P := on e h
theorem m_app {j l x} {P : MV × List MO → Prop} (e : σ[j]? = some (.lst l)) (hl : l.length ≤ lim) (h : P (mN, σ.set j (.lst (l ++ [x])))) : onP (vMeth σ .app (.loc j) [.p x]) P := by
  have e1 : vMeth σ .app (.loc j) [.p x] = thenO (fun l => ifO (l.length ≤ lim) (mN, σ.set j (.lst (l ++ [x])))) (thenO isLst σ[j]?) := rfl
  rw [e1, e]
  exact on (if_pos hl) h
theorem m_pop {j l x} {P : MV × List MO → Prop} (e : σ[j]? = some (.lst (l ++ [x]))) (hl : (l ++ [x]).length ≤ lim) (h : P (.p x, σ.set j (.lst l))) : onP (vMeth σ .pop (.loc j) []) P := by
  have e1 : vMeth σ .pop (.loc j) [] = thenO (fun l => if l.length ≤ lim then l.getLast?.map fun x => (.p x, σ.set j (.lst l.dropLast)) else none) (thenO isLst σ[j]?) := rfl
  rw [e1, e]
  exact on ((if_pos hl).trans (by simp)) h
theorem m_ext {j l xs} {P : MV × List MO → Prop} (e : σ[j]? = some (.lst l)) (hl : l.length + xs.length ≤ lim) (h : P (mN, σ.set j (.lst (l ++ xs)))) : onP (vMeth σ .ext (.loc j) [.p (.tup xs)]) P := by
  have e1 : vMeth σ .ext (.loc j) [.p (.tup xs)] = thenO (fun l => ifO (l.length + xs.length ≤ lim) (mN, σ.set j (.lst (l ++ xs)))) (thenO isLst σ[j]?) := rfl
  rw [e1, e]
  exact on (if_pos hl) h
theorem m_ext0 {j l} {P : MV × List MO → Prop} (e : σ[j]? = some (.lst l)) (hl : l.length ≤ lim) (h : P (mN, σ.set j (.lst l))) : onP (vMeth σ .ext (.loc j) [.p (.tup [])]) P := m_ext e (by simpa using hl) (by simpa using h)
theorem ne_lst {i j l} {P : Bool → Prop} (e : σ[i]? = some (.lst l)) (e' : σ[j]? = some (.lst [])) (h : P (!l.isEmpty)) : onP (vCmp σ .ne (.loc i) (.loc j)) P := by
  refine on (a := !l.isEmpty) ?_ h
  have e1 : vCmp σ .ne (.loc i) (.loc j) = both (nilB false) (thenO isLst σ[i]?) (thenO isLst σ[j]?) := rfl
  rw [e1, e, e']
  cases l <;> rfl
theorem p_lenT {l : List PV} (hl : l.length ≤ lim) (h : Q (mI l.length) ⟨ρ, σ⟩) : vcCall Sp r ns (.p (.cal 4)) [.p (.tup l)] X ⟨ρ, σ⟩ Q := c_cal (q := (mI l.length, σ)) (congrArg (fun x => orO x none) (if_pos hl)) h
theorem p_lenL {j} {l : List PV} (e : σ[j]? = some (.lst l)) (hl : l.length ≤ lim) (h : Q (mI l.length) ⟨ρ, σ⟩) : vcCall Sp r ns (.p (.cal 4)) [.loc j] X ⟨ρ, σ⟩ Q := c_cal (q := (mI l.length, σ)) (by
  have e1 : vPrim ns σ 4 [.loc j] = orO (thenO (lenO σ) (thenO isLst σ[j]?)) none := rfl
  rw [e1, e]
  exact congrArg (fun x => orO x none) (if_pos hl)) h
theorem p_tupT {l : List PV} (h : Q (.p (.tup l)) ⟨ρ, σ⟩) : vcCall Sp r ns (.p (.cal 0)) [.p (.tup l)] X ⟨ρ, σ⟩ Q := c_cal (q := (.p (.tup l), σ)) rfl h
theorem p_tupL {j} {l : List PV} (e : σ[j]? = some (.lst l)) (hl : l.length ≤ lim) (h : Q (.p (.tup l)) ⟨ρ, σ⟩) : vcCall Sp r ns (.p (.cal 0)) [.loc j] X ⟨ρ, σ⟩ Q := c_cal (q := (.p (.tup l), σ)) (by
  have e1 : vPrim ns σ 0 [.loc j] = thenO (fun l => ifO (l.length ≤ lim) (.p (.tup l), σ)) (thenO isLst σ[j]?) := rfl
  rw [e1, e]
  exact if_pos hl) h
theorem p_lstT {l : List PV} (hl : l.length ≤ lim) (h : Q (.loc σ.length) ⟨ρ, σ ++ [.lst l]⟩) : vcCall Sp r ns (.p (.cal 1)) [.p (.tup l)] X ⟨ρ, σ⟩ Q := c_cal (q := (.loc σ.length, σ ++ [.lst l])) (by exact (show orO (newL σ l) none = some (.loc σ.length, σ ++ [.lst l]) from congrArg (fun x => orO x none) (if_pos hl))) h
theorem p_lstL {j} {l : List PV} (e : σ[j]? = some (.lst l)) (hl : l.length ≤ lim) (h : Q (.loc σ.length) ⟨ρ, σ ++ [.lst l]⟩) : vcCall Sp r ns (.p (.cal 1)) [.loc j] X ⟨ρ, σ⟩ Q := c_cal (q := (.loc σ.length, σ ++ [.lst l])) (by
  have e1 : vPrim ns σ 1 [.loc j] = thenO (newL σ) (thenO isLst σ[j]?) := rfl
  rw [e1, e]
  exact if_pos hl) h
theorem p_dct {j} (e : σ[j]? = some (.dct [])) (h : Q (.loc σ.length) ⟨ρ, σ ++ [.dct []]⟩) : vcCall Sp r ns (.p (.cal 2)) [.loc j] X ⟨ρ, σ⟩ Q := c_cal (q := (.loc σ.length, σ ++ [.dct []])) (by
  have e1 : vPrim ns σ 2 [.loc j] = thenO (fun z_ => some (.loc σ.length, σ ++ [.dct []])) (thenO isNil (thenO isDct σ[j]?)) := rfl
  rw [e1, e]
  rfl) h
theorem cut_rev {l : List PV} {P : MV × List MO → Prop} (hl : l.length ≤ lim) (h : P (.p (.tup l.reverse), σ)) : onP (vCut σ none none true (.p (.tup l))) P := on (by
  unfold vCut
  exact if_pos ⟨hl, rfl⟩) h
theorem cut_revL {j} {l : List PV} {P : MV × List MO → Prop} (e : σ[j]? = some (.lst l)) (hl : l.length ≤ lim) (h : P (.loc σ.length, σ ++ [.lst l.reverse])) : onP (vCut σ none none true (.loc j)) P := on (a := (.loc σ.length, σ ++ [.lst l.reverse])) (by
  unfold vCut
  dsimp only
  rw [e]
  exact if_pos hl) h
/-- d ++ k from the end of d -/
theorem cut_hi {j} {d k : List PV} {a b : Int} {P : MV × List MO → Prop} (e : σ[j]? = some (.lst (d ++ k))) (hl : (d ++ k).length ≤ lim) (ha : a = (d ++ k).length) (hb : b = k.length) (h : P (.loc σ.length, σ ++ [.lst k])) : onP (vCut σ (some (a - b)) none false (.loc j)) P := on (a := (.loc σ.length, σ ++ [.lst k])) (by
  unfold vCut
  dsimp only
  rw [e]
  dsimp only
  rw [if_pos hl]
  unfold cutOf
  dsimp only
  clear e hl j
  subst ha hb
  rw [List.length_append] at *
  rw [if_pos (by omega)]
  rw [show (((d.length + k.length : Nat) : Int) - (k.length : Nat)).toNat = d.length by omega, List.drop_left]
  rfl) h
theorem cut_lo {j} {d k : List PV} {a b : Int} {P : MV × List MO → Prop} (e : σ[j]? = some (.lst (d ++ k))) (hl : (d ++ k).length ≤ lim) (ha : a = (d ++ k).length) (hb : b = k.length) (h : P (.loc σ.length, σ ++ [.lst d])) : onP (vCut σ none (some (a - b)) false (.loc j)) P := on (a := (.loc σ.length, σ ++ [.lst d])) (by
  unfold vCut
  dsimp only
  rw [e]
  dsimp only
  rw [if_pos hl]
  unfold cutOf
  dsimp only
  clear e hl j
  subst ha hb
  rw [List.length_append] at *
  rw [if_pos (by omega)]
  rw [show (((d.length + k.length : Nat) : Int) - (k.length : Nat)).toNat = d.length by omega, List.take_left]
  rfl) h
theorem keepR_nil : ∀ (ρ : List (Option MV)) (i : Nat), refsR (keepR [] i ρ) = [] := fun y1_ y2_ => match y1_, y2_ with
  | [], z1_ => rfl
  | v :: r, i => by
    simp only [keepR, List.elem_nil, Bool.false_eq_true, if_false, refsR]
    exact keepR_nil r (i + 1)
theorem norm_p {x np σ σ₁} (e : norm np [] [.p x] ⟨[], σ⟩ = some (⟨[], σ₁⟩, [.p x])) (ρ) : ∃ ρ', norm np [] [.p x] ⟨ρ, σ⟩ = some (⟨ρ', σ₁⟩, [.p x]) := by
  unfold norm at e ⊢
  dsimp only at e ⊢
  have e1 : refsR (keepR [] 0 []) = [] := rfl
  rw [e1] at e
  rw [keepR_nil]
  split at e
  · rename_i hc
    rw [if_pos hc]
    simp only [Option.some.injEq, Prod.mk.injEq, AS.mk.injEq] at e
    exact ⟨_, by rw [e.1.2, e.2]⟩
  · clear e1
    cases e
/-- a datum is handed back -/
theorem hb_p {x σ₁} {R : MV → List MO → List MO → Prop} (e : norm np [] [.p x] ⟨[], σ⟩ = some (⟨[], σ₁⟩, [.p x])) (h : R (.p x) (σ₁.take np) (σ₁.drop np)) : handBack np (.p x) ⟨ρ, σ⟩ R := by
  obtain ⟨ρ', e'⟩ := norm_p e ρ
  exact hb e' h
theorem hb0 {x} {R : MV → List MO → List MO → Prop} (h : R (.p x) [] []) : handBack 0 (.p x) ⟨ρ, σ⟩ R := hb_p (σ₁ := []) (by kernel_rfl!) h
theorem hb1 {x l} {R : MV → List MO → List MO → Prop} (h : R (.p x) [.lst l] []) : handBack 1 (.p x) ⟨ρ, .lst l :: σ⟩ R := hb_p (σ₁ := [.lst l]) (by kernel_rfl!) h
theorem hb2 {x l k} {R : MV → List MO → List MO → Prop} (h : R (.p x) [.lst l, .lst k] []) : handBack 2 (.p x) ⟨ρ, .lst l :: .lst k :: σ⟩ R := hb_p (σ₁ := [.lst l, .lst k]) (by kernel_rfl!) h
theorem sel_nil (σ : List MO) : handOver σ [] = some ([], [], []) := by kernel_rfl!
/-- data alone are handed over -/
theorem c_fn0 {a vs} (e : refsVs vs = []) (h : ∀ f, Sp r a (renVs f vs) [] (fun v σp' σn => Q (renV (backId [] σ.length) v) ⟨ρ, takeBack σ [] σp' σn⟩) X) : vcFn Sp r a vs X ⟨ρ, σ⟩ Q := by
  refine c_fn (sel := []) (ws := renVs (posIn []) vs) (σp := []) ?_ (h _)
  unfold handOver reach
  rw [e]
  rfl
end
end Mine
namespace Mine
set_option hygiene false in
local macro_rules | `(tactic| walk_at "nf") => `(tactic| try dsimp only [List.set_cons_zero, List.set_cons_succ, List.cons_append, List.nil_append, List.length_cons, List.length_nil, Nat.reduceAdd, setAll, List.map_cons, List.map_nil, mkTup, allP, Option.map_some])
set_option hygiene false in
local macro_rules | `(tactic| walk_at "side") => `(tactic| first | assumption | exact Nat.le_of_ble_eq_true rfl | omega | (simp only [List.length_append, List.length_cons, List.length_nil, List.length_map, List.length_reverse, Nat.reduceAdd] at *; first | assumption | omega | decide))
set_option hygiene false in
local macro_rules | `(tactic| walk_at "om") => `(tactic| first | exact r0 (by assumption) | (refine le_lit ?_ ?_; assumption; exact rfl) | (refine le_nm (by assumption) ?_ ?_; assumption; exact rfl) | omega)
set_option hygiene false in
local macro_rules | `(tactic| walk_at "pu") => `(tactic| first
  | with_reducible first | refine e_str ?_ | refine e_int ?_ | refine e_sub ?_ | refine e_cmp ?_ | refine e_and ?_ | refine e_call ?_ | refine e_tup ?_ | refine e_con ?_ | refine e_ite ?_ | refine e_bin ?_ | refine e_lst ?_ | refine e_meth ?_ | refine e_attr ?_ | refine e_slc ?_ | refine e_neg ?_ | refine e_dct0 ?_ | refine l_cons ?_ | refine l_nil ?_ | refine o_none ?_ | refine o_some ?_ | refine t_cmp ?_ | refine t_not ?_ | refine t_and ?_ | refine t_or ?_ | refine t_call ?_ | refine b_cons ?_ | refine b_nil ?_ | refine s_asg ?_ | refine s_ret ?_ | refine s_iff ?_ | refine s_ex ?_ | refine s_asgT ?_ | refine s_setA ?_ | refine s_setI ?_ | refine s_cnt ?_ | refine ts_cnt ?_ | refine ts_ret ?_ | refine tw_nxt ?_ | refine tw_cnt ?_ | refine tw_ret ?_ | refine p_tupT ?_ | refine on_cmps ?_ | refine on_someP ?_ | refine on_cmpn ?_ | refine on_add ?_ | refine on_subi ?_
  | ((with_reducible first | refine' e_lv ?_ ?_ | refine' e_gl ?_ ?_ | refine' t_con ?_ ?_ | refine' on_sub ?_ ?_ | refine' on_truth ?_ ?_ | refine' on_int ?_ ?_ | refine' on_kind ?_ ?_ | refine' on_getA ?_ ?_ | refine' on_setA ?_ ?_ | refine' on_items ?_ ?_ | refine' on_allP ?_ ?_ | refine' on_iter ?_ ?_ | refine' on_tg ?_ ?_ | refine' on_cmp ?_ ?_); rotate_left; exact rfl)
  | ((with_reducible refine' if_t ?_ ?_); exact rfl) | ((with_reducible refine' if_f ?_ ?_); exact rfl)
  | ((with_reducible refine' t_lv ?_ ?_ ?_); rotate_left 2; exact rfl; exact rfl)
  | ((with_reducible refine ts_nxt ?_); walk_at "nf")
  | dsimp only [renV, mkTup, allP, Option.map_some, List.map_cons, List.map_nil])
set_option hygiene false in
local macro_rules | `(tactic| walk_at "im") => `(tactic| first
  | ((with_reducible first | refine' p_lenT ?_ ?_ | refine' p_lstT ?_ ?_ | refine' cut_rev ?_ ?_); walk_at "side")
  | ((with_reducible first | refine' p_lenL ?_ ?_ ?_ | refine' p_tupL ?_ ?_ ?_ | refine' p_lstL ?_ ?_ ?_ | refine' m_ext0 ?_ ?_ ?_ | refine' m_app ?_ ?_ ?_ | refine' m_ext ?_ ?_ ?_ | refine' cut_revL ?_ ?_ ?_); rotate_left; exact rfl; walk_at "side")
  | ((with_reducible refine' c_fnc ?_ ?_); decide)
  | ((with_reducible refine' p_dct ?_ ?_); exact rfl)
  | ((with_reducible refine' ne_lst ?_ ?_ ?_); rotate_left; exact rfl; exact rfl)
  | ((with_reducible refine' m_pop ?_ ?_ ?_); rotate_left 2; exact rfl; walk_at "side")
  | ((with_reducible refine' h_le' ?_ ?_); walk_at "side"; walk_at "nf")
  | ((with_reducible refine' h_and ?_ ?_); exact rfl)
  | with_reducible refine on_map ?_)
set_option hygiene false in
local macro_rules | `(tactic| walk_at "st") => `(tactic| dsimp only [takeBack, pb_nil, pb_cons, rn_lst, rn_bag, rn_fn, bk_nil, mp_cons, mp_nil, List.cons_append, List.nil_append, List.set_cons_zero, List.set_cons_succ, renV, List.length_cons, List.length_nil, Nat.reduceAdd])
local macro_rules | `(tactic| walk_at "go") => `(tactic| first
  | (refine ?g; rcases ((fun h => by (walk_at "pu"; (repeat (walk_at "pu")); exact h)) : _ → type_of% ?g) with hw; refine jmp (type_of% hw) rfl (by kernel_rfl) ?_; clear hw)
  | walk_at "im")
section
variable {n r : Nat} {ns : List Int} {X : Prop} {R : MV → List MO → List MO → Prop}
theorem a54 (hn : 1 ≤ n) (hr : 4 * n ≤ r) {h : Nat} {l : List PV} (k : R (.p (.tup [.str 0, .str h, .tup l])) [] []) : SpF ns n r 54 [.p (.str h), .p (.tup l)] [] R X := by
  refine sp_def rfl rfl rfl hn hr rfl rfl rfl fun m r hm hr' => ?_
  repeat (walk_at "go")
  exact hb0 k
theorem a54l (hn : 1 ≤ n) (hr : 4 * n ≤ r) {h : Nat} {l : List PV} (hl : l.length ≤ lim) (k : R (.p (.tup [.str 0, .str h, .tup l])) [.lst l] []) : SpF ns n r 54 [.p (.str h), .loc 0] [.lst l] R X := by
  refine sp_def rfl rfl rfl hn hr rfl rfl rfl fun m r hm hr' => ?_
  repeat (walk_at "go")
  exact hb1 k
theorem a61 (hn : 1 ≤ n) (hr : 4 * n ≤ r) {h b : Nat} {l : List PV} (k : R (mB (h == b)) [] []) : SpF ns n r 61 [.p (.tup (.str 0 :: .str h :: l)), .p (.str b)] [] R X := by
  refine sp_def rfl rfl rfl hn hr rfl rfl rfl fun m r hm hr' => ?_
  repeat (walk_at "go")
  exact hb0 k
theorem a61f (hn : 1 ≤ n) (hr : 4 * n ≤ r) {h b : Nat} {l : List PV} (hh : (h == 0) = false) (k : R (mB false) [] []) : SpF ns n r 61 [.p (.tup (.str h :: l)), .p (.str b)] [] R X := by
  refine sp_def rfl rfl rfl hn hr rfl rfl rfl fun m r hm hr' => ?_
  repeat (walk_at "go")
  rw [hh]
  repeat (walk_at "go")
  exact hb0 k
theorem a68 (hn : 1 ≤ n) (hr : 4 * n ≤ r) {h : Nat} {l : List PV} (k : R (mS h) [] []) : SpF ns n r 68 [.p (.tup (.str 0 :: .str h :: l))] [] R X := by
  refine sp_def rfl rfl rfl hn hr rfl rfl rfl fun m r hm hr' => ?_
  repeat (walk_at "go")
  exact hb0 k
theorem a68f (hn : 1 ≤ n) (hr : 4 * n ≤ r) {h : Nat} {l : List PV} (hh : (h == 0) = false) (k : R (mS 1) [] []) : SpF ns n r 68 [.p (.tup (.str h :: l))] [] R X := by
  refine sp_def rfl rfl rfl hn hr rfl rfl rfl fun m r hm hr' => ?_
  repeat (walk_at "go")
  rw [hh]
  repeat (walk_at "go")
  exact hb0 k
theorem a75 (hn : 1 ≤ n) (hr : 4 * n ≤ r) {h x : PV} {l : List PV} (k : R (.p x) [] []) : SpF ns n r 75 [.p (.tup (.str 0 :: h :: x :: l))] [] R X := by
  refine sp_def rfl rfl rfl hn hr rfl rfl rfl fun m r hm hr' => ?_
  repeat (walk_at "go")
  exact hb0 k
theorem a75f (hn : 1 ≤ n) (hr : 4 * n ≤ r) {h : Nat} {l : List PV} (hh : (h == 0) = false) (k : R (.p (.tup [])) [] []) : SpF ns n r 75 [.p (.tup (.str h :: l))] [] R X := by
  refine sp_def rfl rfl rfl hn hr rfl rfl rfl fun m r hm hr' => ?_
  repeat (walk_at "go")
  rw [hh]
  repeat (walk_at "go")
  exact hb0 k
theorem a82 (hn : 1 ≤ n) (hr : 4 * n ≤ r) {h : Nat} {l : List PV} (k : R (mB (h == 2)) [] []) : SpF ns n r 82 [.p (.tup (.str h :: l))] [] R X := by
  refine sp_def rfl rfl rfl hn hr rfl rfl rfl fun m r hm hr' => ?_
  repeat (walk_at "go")
  exact hb0 k
theorem a404 (hn : 1 ≤ n) (hr : 4 * n ≤ r) {x : PV} (k : R (.p (.tup [.str 0, .str 14, .tup [x]])) [] []) : SpF ns n r 404 [.p x] [] R X := by
  refine sp_def rfl rfl rfl hn hr rfl rfl rfl fun m r hm hr' => ?_
  repeat (walk_at "go")
  exact hb0 k
noncomputable def constP (k : Nat) (t : PV) : PV := if k == 2 then .tup [.str 47, t] else if k == 0 then .tup [.str 47, .tup [.str 48, t]] else t
theorem a300 (hn : 1 ≤ n) (hr : 4 * n ≤ r) {h : Nat} {l : List PV} (k : R (.p (constP h (.tup (.str h :: l)))) [] []) : SpF ns n r 300 [.p (.tup (.str h :: l))] [] R X := by
  refine sp_def rfl rfl rfl hn hr rfl rfl rfl fun m r hm hr' => ?_
  unfold constP at k
  repeat (walk_at "go")
  cases h2 : (h == 2)
  · rw [h2, if_neg (by decide)] at k
    repeat (walk_at "go")
    cases h3 : (h == 0)
    · rw [h3, if_neg (by decide)] at k
      repeat (walk_at "go")
      exact hb0 k
    · rw [h3, if_pos rfl] at k
      repeat (walk_at "go")
      exact hb0 k
  · rw [h2, if_pos rfl] at k
    repeat (walk_at "go")
    exact hb0 k
theorem a425 (hn : 1 ≤ n) (hr : 4 * n ≤ r) {h : Nat} {l : List PV} (k : R (.p (constP h (.tup (.str h :: l)))) [] []) : SpF ns n r 425 [.p (.tup (.str h :: l))] [] R X := by
  refine sp_def rfl rfl rfl hn hr rfl rfl rfl fun m r hm hr' => ?_
  unfold constP at k
  repeat (walk_at "go")
  cases h2 : (h == 2)
  · rw [h2, if_neg (by decide)] at k
    repeat (walk_at "go")
    cases h3 : (h == 0)
    · rw [h3, if_neg (by decide)] at k
      repeat (walk_at "go")
      exact hb0 k
    · rw [h3, if_pos rfl] at k
      repeat (walk_at "go")
      exact hb0 k
  · rw [h2, if_pos rfl] at k
    repeat (walk_at "go")
    exact hb0 k
theorem a314 (hn : 1 ≤ n) (hr : 4 * n ≤ r) {h : Nat} {d : Int} (hh : (h == 49) = false) (k : R (mI (if (h == 13) = true then d + 1 else d)) [] []) : SpF ns n r 314 [.p (.str h), .p (.int d)] [] R X := by
  refine sp_def rfl rfl rfl hn hr rfl rfl rfl fun m r hm hr' => ?_
  repeat (walk_at "go")
  cases h2 : (h == 13)
  · rw [h2, if_neg (by decide)] at k
    repeat (walk_at "go")
    rw [hh]
    repeat (walk_at "go")
    exact hb0 k
  · rw [h2, if_pos rfl] at k
    repeat (walk_at "go")
    exact hb0 k
end
section
variable {n r : Nat} {ns : List Int} {X : Prop} {R : MV → List MO → List MO → Prop}
/-- what a lambda tells -/
noncomputable def toldRaw : Nat → PV → PV := fun y1_ y2_ => match y1_, y2_ with
  | 0, t => .tup [.str 0, .str 14, .tup [t]]
  | 1, t => .tup [.str 0, .str 68, .tup [.tup [.str 0, .str 14, .tup [t]], .tup [.str 0, .str 14, .tup [t]]]]
  | 2, t => .tup [.str 0, .str 14, .tup [t]]
  | 3, t => .tup [.str 0, .str 51, .tup [.tup [.str 2, .str 69], .tup [.str 0, .str 41, .tup [.tup [.str 2, .str 62], .tup [.str 0, .str 14, .tup [t]]]]]]
  | 4, t => .tup [.str 0, .str 13, .tup [t]]
  | z1_, z2_ => .tup [.str 0, .str 41, .tup [.tup [.str 2, .str 67]]]
theorem aLam0 (hn : 2 ≤ n) (hr : 4 * n ≤ r) {t : PV} {l : List PV} (k : R (.p (toldRaw 0 t)) [.lst (t :: l)] []) : SpF ns n r 1000 [.loc 0] [.lst (t :: l)] R X := by
  refine sp_lam (k := 0) rfl (by walk_at "om") hr rfl rfl rfl fun m r hm hr' => ?_
  repeat (walk_at "go")
  refine c_fn0 rfl fun f => a404 (by walk_at "om") (by walk_at "om") ?_
  exact hb1 k
theorem aLam1 (hn : 2 ≤ n) (hr : 4 * n ≤ r) {t : PV} {l : List PV} (k : R (.p (toldRaw 1 t)) [.lst (t :: l)] []) : SpF ns n r 1001 [.loc 0] [.lst (t :: l)] R X := by
  refine sp_lam (k := 1) rfl (by walk_at "om") hr rfl rfl rfl fun m r hm hr' => ?_
  repeat (walk_at "go")
  refine c_fn0 rfl fun f => a404 (by walk_at "om") (by walk_at "om") ?_
  repeat (walk_at "go")
  refine c_fn0 rfl fun f => a404 (by walk_at "om") (by walk_at "om") ?_
  repeat (walk_at "go")
  exact hb1 k
theorem aLam2 (hn : 2 ≤ n) (hr : 4 * n ≤ r) {t : PV} {l : List PV} (k : R (.p (toldRaw 2 t)) [.lst (t :: l)] []) : SpF ns n r 1002 [.loc 0] [.lst (t :: l)] R X := by
  refine sp_lam (k := 2) rfl (by walk_at "om") hr rfl rfl rfl fun m r hm hr' => ?_
  repeat (walk_at "go")
  refine c_fn0 rfl fun f => a404 (by walk_at "om") (by walk_at "om") ?_
  exact hb1 k
theorem aLam3 (hn : 2 ≤ n) (hr : 4 * n ≤ r) {t : PV} {l : List PV} (k : R (.p (toldRaw 3 t)) [.lst (t :: l)] []) : SpF ns n r 1003 [.loc 0] [.lst (t :: l)] R X := by
  refine sp_lam (k := 3) rfl (by walk_at "om") hr rfl rfl rfl fun m r hm hr' => ?_
  repeat (walk_at "go")
  refine c_fn0 rfl fun f => a404 (by walk_at "om") (by walk_at "om") ?_
  repeat (walk_at "go")
  exact hb1 k
theorem aLam4 (hn : 2 ≤ n) (hr : 4 * n ≤ r) {t : PV} {l : List PV} (k : R (.p (toldRaw 4 t)) [.lst (t :: l)] []) : SpF ns n r 1004 [.loc 0] [.lst (t :: l)] R X := by
  refine sp_lam (k := 4) rfl (by walk_at "om") hr rfl rfl rfl fun m r hm hr' => ?_
  repeat (walk_at "go")
  exact hb1 k
theorem aLam5 (hn : 2 ≤ n) (hr : 4 * n ≤ r) {l : List PV} (k : R (.p (toldRaw 5 (.tup []))) [.lst l] []) : SpF ns n r 1005 [.loc 0] [.lst l] R X := by
  refine sp_lam (k := 5) rfl (by walk_at "om") hr rfl rfl rfl fun m r hm hr' => ?_
  repeat (walk_at "go")
  exact hb1 k
theorem small_of {a : Int} (h0 : 0 ≤ a) (h1 : a < 65497) : (small a && small 139) = true := by
  unfold small
  simp only [Bool.and_eq_true, decide_eq_true_eq]
  omega
/-- the bag: what is left of it -/
noncomputable def bagO (x y : Int) : MO := .lst [.int x, .int y]
theorem on_fdiv {σ : List MO} {a b : Int} {P : MV × List MO → Prop} (h0 : 0 < b ∧ b < 1000000) (h : P (mI (Int.fdiv a b), σ)) : onP (vBin σ .fdiv (.p (.int a)) (.p (.int b))) P := on (a := (mI (Int.fdiv a b), σ)) (congrArg (thenO fun i => some (mI i, σ)) (if_pos h0)) h
theorem on_mod {σ : List MO} {a b : Int} {P : MV × List MO → Prop} (h0 : b > 0) (h : P (mI (Int.fmod a b), σ)) : onP (vBin σ .mod (.p (.int a)) (.p (.int b))) P := on (a := (mI (Int.fmod a b), σ)) (congrArg (thenO fun i => some (mI i, σ)) (if_pos h0)) h
theorem on_mul {σ : List MO} {a b : Int} {P : MV × List MO → Prop} (h0 : (small a && small b) = true) (h : P (mI (a * b), σ)) : onP (vBin σ .mul (.p (.int a)) (.p (.int b))) P := on (a := (mI (a * b), σ)) (congrArg (thenO fun i => some (mI i, σ)) (if_pos h0)) h
theorem a397 (hn : 1 ≤ n) (hr : 4 * n ≤ r) {x y : Int} {m : Nat} (hm : 0 < m ∧ m < 100) (hx : 0 ≤ x) (hy : 0 ≤ y ∧ y < 65497)
    (k : ∀ (w : Nat) x' y', w < m → 0 ≤ x' → (0 ≤ y' ∧ y' < 65497) → R (mI w) [bagO x' y'] []) : SpF ns n r 397 [.loc 0, .p (.int m)] [bagO x y] R X := by
  unfold bagO at *
  refine sp_def rfl rfl rfl hn hr rfl rfl rfl fun m' r hm' hr' => ?_
  repeat (walk_at "go")
  by_cases hx0 : x > 0
  · refine if_t (decide_eq_true hx0) ?_
    repeat (walk_at "go")
    refine on_mod (by walk_at "om") ?_
    repeat (walk_at "go")
    refine on_fdiv (by walk_at "om") ?_
    repeat (walk_at "go")
    refine on (a := [.lst [.int (Int.fdiv x m), .int y]]) rfl ?_
    repeat (walk_at "go")
    refine hb1 ?_
    have e1 : Int.fmod x m = (Int.toNat (Int.fmod x m) : Nat) := by
      rw [Int.toNat_of_nonneg]
      exact Int.fmod_nonneg_of_pos _ (by walk_at "om")
    have := k (Int.toNat (Int.fmod x m)) (Int.fdiv x m) y (by
      have := Int.fmod_lt_of_pos x (b := m) (by walk_at "om")
      omega) (Int.fdiv_nonneg hx (by walk_at "om")) hy
    rw [← e1] at this
    exact this
  · refine if_f (decide_eq_false hx0) ?_
    repeat (walk_at "go")
    refine on_mul (small_of hy.1 hy.2) ?_
    repeat (walk_at "go")
    refine on_mod (by decide) ?_
    repeat (walk_at "go")
    refine on (a := [.lst [.int x, .int (Int.fmod (y * 139 + 9187) 65497)]]) rfl ?_
    repeat (walk_at "go")
    refine on_fdiv (by decide) ?_
    repeat (walk_at "go")
    refine on_mod (by walk_at "om") ?_
    repeat (walk_at "go")
    refine hb1 ?_
    generalize hz : Int.fmod (y * 139 + 9187) 65497 = z
    have hz0 : 0 ≤ z := by rw [← hz]; exact Int.fmod_nonneg_of_pos _ (by decide)
    have hz1 : z < 65497 := by rw [← hz]; exact Int.fmod_lt_of_pos _ (by decide)
    have e1 : Int.fmod (Int.fdiv z 11) m = (Int.toNat (Int.fmod (Int.fdiv z 11) m) : Nat) := by
      rw [Int.toNat_of_nonneg]
      exact Int.fmod_nonneg_of_pos _ (by walk_at "om")
    have := k (Int.toNat (Int.fmod (Int.fdiv z 11) m)) x z (by
      have := Int.fmod_lt_of_pos (Int.fdiv z 11) (b := m) (by walk_at "om")
      omega) hx ⟨hz0, hz1⟩
    rw [← e1] at this
    exact this
end
section
variable {np n r : Nat} {ns : List Int} {X : Prop} {R : MV → List MO → List MO → Prop} {ρ : List (Option MV)} {σ : List MO}
theorem norm_r {vs np σ σ₁ ws} (e : norm np [] vs ⟨[], σ⟩ = some (⟨[], σ₁⟩, ws)) (ρ) : ∃ ρ', norm np [] vs ⟨ρ, σ⟩ = some (⟨ρ', σ₁⟩, ws) := by
  unfold norm at e ⊢
  dsimp only at e ⊢
  have e1 : refsR (keepR [] 0 []) = [] := rfl
  rw [e1] at e
  rw [keepR_nil]
  split at e
  · rename_i hc
    rw [if_pos hc]
    simp only [Option.some.injEq, Prod.mk.injEq, AS.mk.injEq] at e
    exact ⟨_, by rw [e.1.2, e.2]⟩
  · clear e1
    cases e
theorem hb_w {v σ₁ w} {R : MV → List MO → List MO → Prop} (e : norm np [] [v] ⟨[], σ⟩ = some (⟨[], σ₁⟩, [w])) (h : R w (σ₁.take np) (σ₁.drop np)) : handBack np v ⟨ρ, σ⟩ R := by
  obtain ⟨ρ', e'⟩ := norm_r e ρ
  exact hb e' h
theorem norm_l {j l} (e : σ[j]? = some (.lst l)) : norm 0 [] [.loc j] ⟨[], σ⟩ = some (⟨[], [.lst l]⟩, [.loc 0]) := by
  have hj : j < σ.length := (List.getElem?_eq_some_iff.mp e).1
  have hr : refsAt σ j = [] := by unfold refsAt; rw [e]; rfl
  unfold norm reach
  simp [refsVs, refsV, keepR, refsR, addNew, closeL, hr, selOk, nodupB, hj, posIn, pickO, (List.getElem?_eq_some_iff.mp e).2, renO, renR, renVs, renV]
/-- a new list is handed back -/
theorem hbL {j l} {R : MV → List MO → List MO → Prop} (e : σ[j]? = some (.lst l)) (h : R (.loc 0) [] [.lst l]) : handBack 0 (.loc j) ⟨ρ, σ⟩ R := hb_w (norm_l e) h
theorem p_lenS {Sp : Spec} {Q : MV → AS → Prop} (h : Q (mI ns.length) ⟨ρ, σ⟩) : vcCall Sp r ns (.p (.cal 4)) [.p .scr] X ⟨ρ, σ⟩ Q := c_cal (q := (mI ns.length, σ)) rfl h
theorem p_intB {Sp : Spec} {b : Bool} {Q : MV → AS → Prop} (h : Q (mI (if b then 1 else 0)) ⟨ρ, σ⟩) : vcCall Sp r ns (.p (.cal 3)) [.p (.con (.bool b))] X ⟨ρ, σ⟩ Q := c_cal (q := (mI (if b then 1 else 0), σ)) rfl h
theorem small_le {a : Int} (h0 : 0 ≤ a) (h1 : a < 4611686018427387904) : small a = true := by
  unfold small
  simp only [decide_eq_true_eq]
  omega
theorem small_and {a b : Int} (h0 : 0 ≤ a) (h1 : a < 4611686018427387904) (g0 : 0 ≤ b) (g1 : b < 4611686018427387904) : (small a && small b) = true := by
  rw [small_le h0 h1, small_le g0 g1]
  rfl
theorem bag_tail (hn : 1 ≤ n) {t : Nat} (ht : t ≤ 1) {cell : Int} {ρ : List (Option MV)} (eρ : ρ = [some (.p .scr), some (.p (.int t)), some (mI cell), none, none, none])
    (k : ∀ x y, 0 ≤ x → (0 ≤ y ∧ y < 65497) → R (.loc 0) [] [bagO x y]) {Sp : Spec} :
    vcB Sp r ns 0 [.asg 3 (.ite (.cmp .ge (.lv 2) (.int 0)) (.lv 2) (.neg (.lv 2))),
      .ret (.lst [(.ite (.cmp .ge (.lv 3) (.bin .pow (.int 10) (.int 15))) (.lv 3) (.int 0)), (.bin .mod (.bin .add (.bin .add (.bin .add (.bin .mul (.bin .mod (.lv 3) (.int 999979)) (.int 197)) (.bin .mul (.int 61) (.lv 1))) (.bin .mul (.int 13) (.call (.gl 3) [(.cmp .lt (.lv 2) (.int 0))]))) (.int 3)) (.int 65497))])] X ⟨ρ, []⟩ fun fl c => handBack 0 fl.val c R := by
  subst eρ
  unfold bagO at k
  have key : ∀ w : Int, 0 ≤ w → vcB Sp r ns 0 [.ret (.lst [(.ite (.cmp .ge (.lv 3) (.bin .pow (.int 10) (.int 15))) (.lv 3) (.int 0)), (.bin .mod (.bin .add (.bin .add (.bin .add (.bin .mul (.bin .mod (.lv 3) (.int 999979)) (.int 197)) (.bin .mul (.int 61) (.lv 1))) (.bin .mul (.int 13) (.call (.gl 3) [(.cmp .lt (.lv 2) (.int 0))]))) (.int 3)) (.int 65497))])] X ⟨[some (.p .scr), some (.p (.int t)), some (mI cell), some (mI w), none, none], []⟩ fun fl c => handBack 0 fl.val c R := by
    intro w hw
    have fin : ∀ x : Int, 0 ≤ x → vcE Sp r ns X (.bin .mod (.bin .add (.bin .add (.bin .add (.bin .mul (.bin .mod (.lv 3) (.int 999979)) (.int 197)) (.bin .mul (.int 61) (.lv 1))) (.bin .mul (.int 13) (.call (.gl 3) [(.cmp .lt (.lv 2) (.int 0))]))) (.int 3)) (.int 65497)) ⟨[some (.p .scr), some (.p (.int t)), some (mI cell), some (mI w), none, none], []⟩ fun v c₁ =>
        vcL Sp r ns X [] c₁ fun vs c₂ => onP (allP (mI x :: v :: vs)) fun l => l.length ≤ lim ∧ thenS (fun c₁ => vcB Sp r ns 0 [] X c₁ fun fl c => handBack 0 fl.val c R) (fun fl c => handBack 0 fl.val c R) (.ret (.loc c₂.σ.length)) ⟨c₂.ρ, c₂.σ ++ [.lst l]⟩ := by
      intro x hx
      repeat (walk_at "go")
      refine on_mod (by decide) ?_
      repeat (walk_at "go")
      refine on_mul (small_and (Int.fmod_nonneg_of_pos _ (by decide)) (Int.lt_of_lt_of_le (Int.fmod_lt_of_pos _ (by decide)) (by decide)) (by decide) (by decide)) ?_
      repeat (walk_at "go")
      refine on_mul (small_and (by decide) (by decide) (by walk_at "om") (by walk_at "om")) ?_
      repeat (walk_at "go")
      refine p_intB ?_
      repeat (walk_at "go")
      refine on_mul (small_and (by decide) (by decide) (by split <;> decide) (by split <;> decide)) ?_
      repeat (walk_at "go")
      refine on_mod (by decide) ?_
      repeat (walk_at "go")
      refine hbL (j := 0) (l := [.int x, .int _]) rfl ?_
      exact k x _ hx ⟨Int.fmod_nonneg_of_pos _ (by decide), Int.fmod_lt_of_pos _ (by decide)⟩
    repeat (walk_at "go")
    refine on_bin (a := (mI 1000000000000000, [])) rfl ?_
    repeat (walk_at "go")
    by_cases h : w ≥ 1000000000000000
    · refine if_t (decide_eq_true h) ?_
      repeat (walk_at "go")
      exact fin w hw
    · refine if_f (decide_eq_false h) ?_
      repeat (walk_at "go")
      exact fin 0 (by decide)
  repeat (walk_at "go")
  by_cases h : cell ≥ 0
  · refine if_t (decide_eq_true h) ?_
    refine e_lv rfl ?_
    refine ts_nxt ?_
    exact key cell h
  · refine if_f (decide_eq_false h) ?_
    refine e_neg (e_lv rfl ?_)
    refine on_int rfl ?_
    refine ts_nxt ?_
    exact key (-cell) (by walk_at "om")
theorem a390 (hn : 1 ≤ n) (hr : 4 * n ≤ r) {t : Nat} (ht : t ≤ 1) (k : ∀ x y, 0 ≤ x → (0 ≤ y ∧ y < 65497) → R (.loc 0) [] [bagO x y]) : SpF ns n r 390 [.p .scr, .p (.int t)] [] R X := by
  refine sp_def rfl rfl rfl hn hr rfl rfl rfl fun m' r hm' hr' => ?_
  refine b_cons ?_
  refine s_asg ?_
  refine e_ite ?_
  refine t_cmp ?_
  repeat (walk_at "go")
  refine p_lenS ?_
  repeat (walk_at "go")
  by_cases h : (t : Int) < ns.length
  · refine if_t (decide_eq_true h) ?_
    refine e_sub (e_lv rfl (e_lv rfl ?_))
    have hlt : t < ns.length := by omega
    have e1 : nthI ns (t : Int) = some ns[t] := by
      unfold nthI
      rw [if_pos ⟨by omega, by unfold lim; omega⟩, Int.toNat_natCast]
      exact List.getElem?_eq_getElem hlt
    refine on_sub (a := mI ns[t]) (by show orO (Option.map mI (nthI ns (t:Int))) none = _; rw [e1]; rfl) ?_
    refine ts_nxt ?_
    exact bag_tail hn ht rfl k
  · refine if_f (decide_eq_false h) ?_
    refine e_int ?_
    refine ts_nxt ?_
    exact bag_tail hn ht rfl k
end
/-! ## trees -/
inductive GT where
  | leaf (k : Nat) (x : PV)
  | node (h : Nat) (l : List GT)
mutual
noncomputable def encG : GT → PV := fun y1_ => match y1_ with
  | .leaf k x => .tup [.str k, x]
  | .node h l => .tup [.str 0, .str h, .tup (encGs l)]
noncomputable def encGs : List GT → List PV := fun y1_ => match y1_ with
  | [] => []
  | g :: l => encG g :: encGs l
end
mutual
noncomputable def szG : GT → Nat := fun y1_ => match y1_ with
  | .leaf z1_ z2_ => 1
  | .node z1_ l => 1 + szGs l
noncomputable def szGs : List GT → Nat := fun y1_ => match y1_ with
  | [] => 0
  | g :: l => szG g + szGs l
end
mutual
/-- no escape, no $ -/
noncomputable def okG : GT → Bool := fun y1_ => match y1_ with
  | .leaf k z1_ => !(k == 0)
  | .node h l => !(h == 14) && (!(h == 49) && okGs l)
noncomputable def okGs : List GT → Bool := fun y1_ => match y1_ with
  | [] => true
  | g :: l => okG g && okGs l
end
theorem encGs_len : ∀ l : List GT, (encGs l).length = l.length := fun y1_ => match y1_ with
  | [] => rfl
  | g :: l => by simp only [encGs, List.length_cons, encGs_len l]
theorem szG_pos : ∀ g : GT, 1 ≤ szG g := fun y1_ => match y1_ with
  | .leaf z1_ z2_ => Nat.le_refl _
  | .node z1_ z2_ => by simp only [szG]; omega
theorem szGs_len : ∀ l : List GT, l.length ≤ szGs l := fun y1_ => match y1_ with
  | [] => Nat.le_refl _
  | g :: l => by
    have := szGs_len l
    have := szG_pos g
    simp only [szGs, List.length_cons]
    omega
/-- the turns of a for that appends -/
theorem turns_push {f : AS → (Fl → AS → Prop) → Prop} {chk : List MO → Prop} {i : Nat} {g : PV → PV} {σ₂ : List MO} {F : Fl → AS → Prop} (ρ0 : Option MV → List (Option MV)) (hset : ∀ y x, (ρ0 y).set i x = ρ0 x)
    (hf : ∀ x T (G : Fl → AS → Prop), T.length ≤ lim → G .nxt ⟨ρ0 (some (.p x)), .lst (T ++ [g x]) :: σ₂⟩ → f ⟨ρ0 (some (.p x)), .lst T :: σ₂⟩ G) (hchk : ∀ σ, chk σ) :
    ∀ (xs T : List PV) (y : Option MV), T.length + xs.length ≤ lim → (∀ y', F .nxt ⟨ρ0 y', .lst (T ++ xs.map g) :: σ₂⟩) → vcTurns f chk i xs ⟨ρ0 y, .lst T :: σ₂⟩ F
  | [], T, y, z1_, k => u_nil (by simpa using k y)
  | x :: xs, T, y, hl, k => by
    simp only [List.length_cons] at hl
    refine u_cons ?_
    rw [hset]
    refine hf x T _ (by walk_at "om") (tw_nxt ⟨hchk _, ?_⟩)
    refine turns_push ρ0 hset hf hchk xs _ _ (by simp only [List.length_append, List.length_cons, List.length_nil]; omega) fun y' => ?_
    have := k y'
    rw [List.map_cons] at this
    rw [List.append_assoc]
    exact this
section
variable {Sp : Spec} {r : Nat} {X : Prop} {ρ : List (Option MV)} {σ : List MO} {Q : MV → AS → Prop}
theorem hand_l {vs j l} (e : refsVs vs = [j]) (e' : σ[j]? = some (.lst l)) : handOver σ vs = some ([j], renVs (posIn [j]) vs, [.lst l]) := by
  have hj : j < σ.length := (List.getElem?_eq_some_iff.mp e').1
  have hr : refsAt σ j = [] := by unfold refsAt; rw [e']; rfl
  unfold handOver reach
  rw [e]
  simp [addNew, closeL, hr, selOk, nodupB, hj, posIn, pickO, (List.getElem?_eq_some_iff.mp e').2, renO]
theorem c_fn_l {a j l} (e : σ[j]? = some (.lst l)) (h : Sp r a [.loc 0] [.lst l] (fun v σp' σn => Q (renV (backId [j] σ.length) v) ⟨ρ, takeBack σ [j] σp' σn⟩) X) : vcFn Sp r a [.loc j] X ⟨ρ, σ⟩ Q :=
  c_fn (hand_l rfl e) (by simpa [renVs, renV, posIn] using h)
theorem c_fn_pl {a j l x} (e : σ[j]? = some (.lst l)) (h : Sp r a [.p x, .loc 0] [.lst l] (fun v σp' σn => Q (renV (backId [j] σ.length) v) ⟨ρ, takeBack σ [j] σp' σn⟩) X) : vcFn Sp r a [.p x, .loc j] X ⟨ρ, σ⟩ Q :=
  c_fn (hand_l rfl e) (by simpa [renVs, renV, posIn] using h)
theorem c_fn_lp {a j l x} (e : σ[j]? = some (.lst l)) (h : Sp r a [.loc 0, .p x] [.lst l] (fun v σp' σn => Q (renV (backId [j] σ.length) v) ⟨ρ, takeBack σ [j] σp' σn⟩) X) : vcFn Sp r a [.loc j, .p x] X ⟨ρ, σ⟩ Q :=
  c_fn (hand_l rfl e) (by simpa [renVs, renV, posIn] using h)
end
/-! ## bare -/
@[reducible] noncomputable def bT : ME := (.cmp .ne (.lv 1) (.lst []))
@[reducible] noncomputable def bB : List MS := [.asgT [3, 4] (.meth (.lv 1) 25 []), .iff (.lv 3) [.asg 5 (.call (.gl 4) [(.sub (.lv 4) (.int 2))]), .asg 6 (.slc (.lv 2) (some (.bin .sub (.call (.gl 4) [(.lv 2)]) (.lv 5))) none false), .asg 2 (.slc (.lv 2) none (some (.bin .sub (.call (.gl 4) [(.lv 2)]) (.lv 5))) false), .ex (.meth (.lv 2) 31 [(.call (.gl 14) [(.sub (.lv 4) (.int 1)), (.lv 6)])])] [.iff (.call (.gl 15) [(.lv 4), (.str 14)]) [.ex (.meth (.lv 2) 31 [(.sub (.sub (.lv 4) (.int 2)) (.int 0))])] [.iff (.cmp .ne (.sub (.lv 4) (.int 0)) (.str 0)) [.ex (.meth (.lv 2) 31 [(.lv 4)])] [.ex (.meth (.lv 1) 31 [(.tup [(.con (.bool true)), (.lv 4)])]), .for_ 7 (.slc (.sub (.lv 4) (.int 2)) none none true) [.ex (.meth (.lv 1) 31 [(.tup [(.con (.bool false)), (.lv 7)])])]]]]]
@[reducible] noncomputable def bst (T D : List PV) : AS := ⟨[none, some (.loc 0), some (.loc 1), none, none, none, none, none, none, none, none], [.lst T, .lst D]⟩
@[reducible] noncomputable def rdy (b : Bool) (x : PV) : PV := .tup [.con (.bool b), x]
theorem bst_norm {y : Option MV} {a : Option MV} {b c d e f g : Option MV} {T D : List PV} {σ₂ : List MO} : norm 0 [1, 2] [] ⟨[a, some (.loc 0), some (.loc 1), b, c, d, e, f, g, y, y], .lst T :: .lst D :: σ₂⟩ = some (bst T D, []) := by kernel_rfl!
theorem bst_norm2 {y y' a b c d e f g : Option MV} {T D x1 x2 x3 : List PV} : norm 0 [1, 2] [] ⟨[a, some (.loc 0), some (.loc 4), b, c, d, e, f, g, y, y'], [.lst T, .lst x1, .lst x2, .lst x3, .lst D]⟩ = some (bst T D, []) := by kernel_rfl!
section
variable {n r m : Nat} {ns : List Int} {X : Prop} {F : Fl → AS → Prop}
theorem bare_leaf (hn : 1 ≤ n) (hr : 4 * n ≤ r) {k : Nat} {x : PV} {T D : List PV} (hk : (k == 0) = false) (hl : T.length + D.length + 5 ≤ lim) (h : U (SpF ns n) r ns 0 bT bB [1, 2] X F m (bst T (D ++ [.tup [.str k, x]]))) :
    U (SpF ns n) r ns 0 bT bB [1, 2] X F (m + 1) (bst (T ++ [rdy false (.tup [.str k, x])]) D) := by
  refine u_step ?_
  repeat (walk_at "go")
  refine if_t (by simp) ?_
  repeat (walk_at "go")
  refine c_fn0 rfl fun f => a61f hn hr hk ?_
  repeat (walk_at "go")
  refine if_t (by rw [bne, hk]; rfl) ?_
  repeat (walk_at "go")
  exact u_next (m' := m) (by walk_at "om") bst_norm h
theorem bare_node (hn : 1 ≤ n) (hr : 4 * n ≤ r) {h : Nat} {l T D : List PV} (hh : (h == 14) = false) (hl : T.length + D.length + l.length + 5 ≤ lim) (k : U (SpF ns n) r ns 0 bT bB [1, 2] X F m (bst (T ++ [rdy true (.tup [.str 0, .str h, .tup l])] ++ l.reverse.map (rdy false)) D)) :
    U (SpF ns n) r ns 0 bT bB [1, 2] X F (m + 1) (bst (T ++ [rdy false (.tup [.str 0, .str h, .tup l])]) D) := by
  refine u_step ?_
  repeat (walk_at "go")
  refine if_t (by simp) ?_
  repeat (walk_at "go")
  refine c_fn0 rfl fun f => a61 hn hr ?_
  refine on_truth rfl ?_
  refine if_f hh ?_
  repeat (walk_at "go")
  refine s_for ?_
  repeat (walk_at "go")
  refine turns_push (fun y => [none, some (.loc 0), some (.loc 1), some (mB false), some (.p (.tup [.str 0, .str h, .tup l])), none, none, y, none, none, none]) (fun z_ z_ => rfl) (g := rdy false) (fun x T G hT hG => ?_) (fun z_ => trivial) _ _ _ ?_ fun y' => ?_
  · repeat (walk_at "go")
    exact hG
  · walk_at "side"
  · refine ts_nxt ?_
    repeat (walk_at "go")
    exact u_next (m' := m) (by walk_at "om") bst_norm k
theorem bare_ready (hn : 1 ≤ n) (hr : 4 * n ≤ r) {h : Nat} {l T D : List PV} (hl : T.length + D.length + l.length + 5 ≤ lim) (k : U (SpF ns n) r ns 0 bT bB [1, 2] X F m (bst T (D ++ [.tup [.str 0, .str h, .tup l]]))) :
    U (SpF ns n) r ns 0 bT bB [1, 2] X F (m + 1) (bst (T ++ [rdy true (.tup [.str 0, .str h, .tup l])]) (D ++ l)) := by
  refine u_step ?_
  repeat (walk_at "go")
  refine if_t (by simp) ?_
  repeat (walk_at "go")
  refine cut_hi (d := D) (k := l) rfl (by walk_at "side") rfl rfl ?_
  repeat (walk_at "go")
  refine cut_lo (d := D) (k := l) rfl (by walk_at "side") rfl rfl ?_
  repeat (walk_at "go")
  refine c_fn_pl rfl (a54l hn hr (by walk_at "om") ?_)
  repeat (walk_at "go")
  exact u_next (m' := m) (by walk_at "om") bst_norm2 k
mutual
theorem bare_step (ns : List Int) (hn : 1 ≤ n) (hr : 4 * n ≤ r) : ∀ g : GT, okG g = true → ∃ s, ∀ (T D : List PV) m, T.length + D.length + 2 * szG g + 5 ≤ lim → U (SpF ns n) r ns 0 bT bB [1, 2] X F m (bst T (D ++ [encG g])) → U (SpF ns n) r ns 0 bT bB [1, 2] X F (m + s) (bst (T ++ [rdy false (encG g)]) D) := fun y1_ y2_ => match y1_, y2_ with
  | .leaf k x, ok => ⟨1, fun T D m hl h => by
    simp only [okG, Bool.not_eq_true'] at ok
    simp only [szG] at hl
    exact bare_leaf hn hr ok (by walk_at "om") h⟩
  | .node h l, ok => by
    simp only [okG, Bool.and_eq_true, Bool.not_eq_true'] at ok
    obtain ⟨s, hs⟩ := bare_steps ns hn hr l ok.2.2
    refine ⟨1 + s + 1, fun T D m hl k => ?_⟩
    simp only [szG] at hl
    have := szGs_len l
    have el := encGs_len l
    simp only [encG] at k ⊢
    rw [show m + (1 + s + 1) = (m + 1) + s + 1 by omega]
    refine bare_node hn hr ok.1 (by walk_at "om") ?_
    refine hs (T ++ [rdy true (.tup [.str 0, .str h, .tup (encGs l)])]) D (m + 1) (by simp only [List.length_append, List.length_cons, List.length_nil]; omega) ?_
    exact bare_ready hn hr (by walk_at "om") k
theorem bare_steps (ns : List Int) (hn : 1 ≤ n) (hr : 4 * n ≤ r) : ∀ l : List GT, okGs l = true → ∃ s, ∀ (T D : List PV) m, T.length + D.length + 2 * szGs l + 5 ≤ lim → U (SpF ns n) r ns 0 bT bB [1, 2] X F m (bst T (D ++ encGs l)) → U (SpF ns n) r ns 0 bT bB [1, 2] X F (m + s) (bst (T ++ (encGs l).reverse.map (rdy false)) D) := fun y1_ y2_ => match y1_, y2_ with
  | [], z1_ => ⟨0, fun T D m hl h => by simpa [encGs] using h⟩
  | g :: l, ok => by
    simp only [okGs, Bool.and_eq_true] at ok
    obtain ⟨s1, h1⟩ := bare_step ns hn hr g ok.1
    obtain ⟨s2, h2⟩ := bare_steps ns hn hr l ok.2
    refine ⟨s2 + s1, fun T D m hl h => ?_⟩
    simp only [szGs] at hl
    have := szGs_len l
    have := szG_pos g
    have el := encGs_len l
    simp only [encGs, List.reverse_cons, List.map_append, List.map_cons, List.map_nil] at h ⊢
    rw [← List.append_assoc, ← Nat.add_assoc]
    refine h1 _ D (m + s2) (by simp only [List.length_append, List.length_map, List.length_reverse]; omega) ?_
    refine h2 T _ m (by simp only [List.length_append, List.length_cons, List.length_nil]; omega) ?_
    rw [List.append_assoc]
    exact h
end
end
theorem a173 {n r : Nat} {ns : List Int} {X : Prop} {R : MV → List MO → List MO → Prop} (hn : 2 ≤ n) (hr : 4 * n ≤ r) {g : GT} (ok : okG g = true) (hl : 2 * szG g + 10 ≤ lim) (k : R (.p (encG g)) [] []) : SpF ns n r 173 [.p (encG g)] [] R X := by
  refine sp_def rfl rfl rfl (by walk_at "om") hr rfl rfl rfl fun m r hm hr' => ?_
  obtain ⟨s, hs⟩ := bare_step (X := X) (F := thenS (fun c₁ => vcB (SpF ns m) r ns 0 [.ret (.sub (.lv 2) (.int 0))] X c₁ fun fl c => handBack 0 fl.val c R) fun fl c => handBack 0 fl.val c R) ns (show 1 ≤ m by omega) (show 4 * m ≤ r by omega) g ok
  repeat (walk_at "go")
  refine s_whl [1, 2] (1 + s) (q := (bst [rdy false (encG g)] [], [])) (by kernel_rfl!) ?_
  refine hs [] [] 1 (by simp only [List.length_nil]; omega) ?_
  refine u_step ?_
  repeat (walk_at "go")
  exact hb0 k
/-! ## quoted -/
@[reducible] noncomputable def qT : ME := (.cmp .ne (.lv 1) (.lst []))
@[reducible] noncomputable def qB : List MS := [.asgT [3, 4, 5] (.meth (.lv 1) 25 []), .iff (.lv 3) [.asg 6 (.call (.gl 4) [(.sub (.lv 4) (.int 2))]), .asg 7 (.slc (.lv 2) (some (.bin .sub (.call (.gl 4) [(.lv 2)]) (.lv 6))) none false), .asg 2 (.slc (.lv 2) none (some (.bin .sub (.call (.gl 4) [(.lv 2)]) (.lv 6))) false), .ex (.meth (.lv 2) 31 [(.call (.gl 25) [(.lv 4), (.lv 7)])])] [.iff (.cmp .ne (.sub (.lv 4) (.int 0)) (.str 0)) [.ex (.meth (.lv 2) 31 [(.tup [(.con (.bool true)), (.lv 4)])])] [.iff (.and (.cmp .eq (.sub (.lv 4) (.int 1)) (.str 49)) (.cmp .eq (.lv 5) (.int 1))) [.ex (.meth (.lv 2) 31 [(.tup [(.con (.bool false)), (.call (.gl 24) [(.lv 4)])])])] [.ex (.meth (.lv 1) 31 [(.tup [(.con (.bool true)), (.lv 4), (.lv 5)])]), .for_ 8 (.slc (.sub (.lv 4) (.int 2)) none none true) [.ex (.meth (.lv 1) 31 [(.tup [(.con (.bool false)), (.lv 8), (.call (.gl 23) [(.sub (.lv 4) (.int 1)), (.lv 5)])])])]]]]]
@[reducible] noncomputable def qst (T D : List PV) : AS := ⟨[none, some (.loc 0), some (.loc 1), none, none, none, none, none, none, none, none, none, none, none, none, none, none, none], [.lst T, .lst D]⟩
@[reducible] noncomputable def rd3 (b : Bool) (x : PV) (d : Int) : PV := .tup [.con (.bool b), x, .int d]
theorem qst_norm {a b c d e f g i j k l m o p q r : Option MV} {T D : List PV} {σ₂ : List MO} : norm 0 [1, 2] [] ⟨[a, some (.loc 0), some (.loc 1), b, c, d, e, f, g, i, j, k, l, m, o, p, q, r], .lst T :: .lst D :: σ₂⟩ = some (qst T D, []) := by kernel_rfl!
theorem qst_norm2 {a b c d e f g i j k l m o p q r : Option MV} {T D x1 x2 x3 : List PV} : norm 0 [1, 2] [] ⟨[a, some (.loc 0), some (.loc 4), b, c, d, e, f, g, i, j, k, l, m, o, p, q, r], [.lst T, .lst x1, .lst x2, .lst x3, .lst D]⟩ = some (qst T D, []) := by kernel_rfl!
theorem allB_true : ∀ l : List PV, allB (l.map fun z_ => .con (.bool true)) = some true := fun y1_ => match y1_ with
  | [] => rfl
  | x :: l => by simp only [List.map_cons, allB, allB_true l, Option.map_some, Bool.and_true]
section
variable {n r m : Nat} {ns : List Int} {X : Prop} {F : Fl → AS → Prop} {R : MV → List MO → List MO → Prop}
theorem comp_true {Sp : Spec} {ks : List PV} {Q : AS → Prop} : ∀ (xs ys : List PV) (y1 y2 : Option MV), ys.length + xs.length ≤ lim → (∀ y1 y2, Q ⟨[none, y1, y2], [.lst ks, .lst (ys ++ xs.map fun z_ => .con (.bool true))]⟩) →
    vcComp (vcE Sp r ns False (.lv 1)) (vcC Sp r ns False none) (stillAt (.loc 0) [.lst ks]) [1, 2] 1 (xs.map (rdy true)) ⟨[none, y1, y2], [.lst ks, .lst ys]⟩ Q
  | [], ys, y1, y2, hl, k => by
    have := k y1 y2
    simp only [List.map_nil, List.append_nil] at this
    exact this
  | x :: xs, ys, y1, y2, hl, k => by
    simp only [List.length_cons] at hl
    rw [List.map_cons]
    show onP (some [none, some (MV.p (.con (.bool true))), some (MV.p x)]) _
    rw [onP_some]
    show _ ≤ lim ∧ _ ∧ _
    refine ⟨by omega, rfl, ?_⟩
    refine comp_true xs (ys ++ [.con (.bool true)]) _ _ (by simp only [List.length_append, List.length_cons, List.length_nil]; omega) fun z1 z2 => ?_
    have := k z1 z2
    rw [List.map_cons] at this
    rw [List.append_assoc]
    exact this
theorem a326 (hn : 1 ≤ n) (hr : 4 * n ≤ r) {x : PV} {xs : List PV} (hl : xs.length ≤ lim) (k : R (.p (rdy true x)) [.lst (xs.map (rdy true))] []) : SpF ns n r 326 [.p x, .loc 0] [.lst (xs.map (rdy true))] R X := by
  refine sp_def rfl rfl rfl hn hr rfl rfl rfl fun m r hm hr' => ?_
  repeat (walk_at "go")
  refine e_comp ?_
  repeat (walk_at "go")
  refine comp_true xs [] none none (by simpa using hl) fun y1 y2 => ?_
  repeat (walk_at "go")
  refine c_cal (q := (mB true, [.lst (xs.map (rdy true)), .lst (xs.map fun z_ => .con (.bool true))])) ?_ ?_
  · show (allB _).map _ = _
    rw [List.nil_append, allB_true]
    rfl
  repeat (walk_at "go")
  exact hb1 k
theorem quo_leaf (hn : 1 ≤ n) (hr : 4 * n ≤ r) {k : Nat} {x : PV} {d : Int} {T D : List PV} (hk : (k == 0) = false) (hl : T.length + D.length + 5 ≤ lim) (h : U (SpF ns n) r ns 0 qT qB [1, 2] X F m (qst T (D ++ [rdy true (.tup [.str k, x])]))) :
    U (SpF ns n) r ns 0 qT qB [1, 2] X F (m + 1) (qst (T ++ [rd3 false (.tup [.str k, x]) d]) D) := by
  refine u_step ?_
  repeat (walk_at "go")
  refine if_t (by simp) ?_
  repeat (walk_at "go")
  refine if_t (by rw [bne, hk]; rfl) ?_
  repeat (walk_at "go")
  exact u_next (m' := m) (by walk_at "om") qst_norm h
@[reducible] noncomputable def dIn (h : Nat) (d : Int) : Int := if (h == 13) = true then d + 1 else d
theorem quo_node (hn : 1 ≤ n) (hr : 4 * n ≤ r) {h : Nat} {l T D : List PV} {d : Int} (hh : (h == 49) = false) (hl : T.length + D.length + l.length + 5 ≤ lim) (k : U (SpF ns n) r ns 0 qT qB [1, 2] X F m (qst (T ++ [rd3 true (.tup [.str 0, .str h, .tup l]) d] ++ l.reverse.map fun x => rd3 false x (dIn h d)) D)) :
    U (SpF ns n) r ns 0 qT qB [1, 2] X F (m + 1) (qst (T ++ [rd3 false (.tup [.str 0, .str h, .tup l]) d]) D) := by
  refine u_step ?_
  repeat (walk_at "go")
  refine if_t (by simp) ?_
  repeat (walk_at "go")
  refine if_f hh ?_
  repeat (walk_at "go")
  refine s_for ?_
  repeat (walk_at "go")
  refine turns_push (fun y => [none, some (.loc 0), some (.loc 1), some (mB false), some (.p (.tup [.str 0, .str h, .tup l])), some (mI d), none, none, y, none, none, none, none, none, none, none, none, none]) (fun z_ z_ => rfl) (g := fun x => rd3 false x (dIn h d)) (fun x T G hT hG => ?_) (fun z_ => trivial) _ _ _ ?_ fun y' => ?_
  · repeat (walk_at "go")
    refine c_fn0 rfl fun f => a314 hn hr hh ?_
    repeat (walk_at "go")
    exact hG
  · walk_at "side"
  · refine ts_nxt ?_
    repeat (walk_at "go")
    exact u_next (m' := m) (by walk_at "om") qst_norm k
theorem quo_ready (hn : 1 ≤ n) (hr : 4 * n ≤ r) {h : Nat} {l T D : List PV} {d : Int} (hl : T.length + D.length + l.length + 5 ≤ lim) (k : U (SpF ns n) r ns 0 qT qB [1, 2] X F m (qst T (D ++ [rdy true (.tup [.str 0, .str h, .tup l])]))) :
    U (SpF ns n) r ns 0 qT qB [1, 2] X F (m + 1) (qst (T ++ [rd3 true (.tup [.str 0, .str h, .tup l]) d]) (D ++ l.map (rdy true))) := by
  refine u_step ?_
  repeat (walk_at "go")
  refine if_t (by simp) ?_
  repeat (walk_at "go")
  refine cut_hi (d := D) (k := l.map (rdy true)) rfl (by walk_at "side") rfl (by rw [List.length_map]) ?_
  repeat (walk_at "go")
  refine cut_lo (d := D) (k := l.map (rdy true)) rfl (by walk_at "side") rfl (by rw [List.length_map]) ?_
  repeat (walk_at "go")
  refine c_fn_pl rfl (a326 hn hr (by walk_at "om") ?_)
  repeat (walk_at "go")
  exact u_next (m' := m) (by walk_at "om") qst_norm2 k
mutual
theorem quo_step (ns : List Int) (hn : 1 ≤ n) (hr : 4 * n ≤ r) : ∀ g : GT, okG g = true → ∃ s, ∀ (T D : List PV) (d : Int) m, T.length + D.length + 2 * szG g + 5 ≤ lim → U (SpF ns n) r ns 0 qT qB [1, 2] X F m (qst T (D ++ [rdy true (encG g)])) → U (SpF ns n) r ns 0 qT qB [1, 2] X F (m + s) (qst (T ++ [rd3 false (encG g) d]) D) := fun y1_ y2_ => match y1_, y2_ with
  | .leaf k x, ok => ⟨1, fun T D d m hl h => by
    simp only [okG, Bool.not_eq_true'] at ok
    simp only [szG] at hl
    exact quo_leaf hn hr ok (by walk_at "om") h⟩
  | .node h l, ok => by
    simp only [okG, Bool.and_eq_true, Bool.not_eq_true'] at ok
    obtain ⟨s, hs⟩ := quo_steps ns hn hr l ok.2.2
    refine ⟨1 + s + 1, fun T D d m hl k => ?_⟩
    simp only [szG] at hl
    have := szGs_len l
    have el := encGs_len l
    simp only [encG] at k ⊢
    rw [show m + (1 + s + 1) = (m + 1) + s + 1 by omega]
    refine quo_node hn hr ok.2.1 (by walk_at "om") ?_
    refine hs (T ++ [rd3 true (.tup [.str 0, .str h, .tup (encGs l)]) d]) D (dIn h d) (m + 1) (by simp only [List.length_append, List.length_cons, List.length_nil]; omega) ?_
    exact quo_ready hn hr (by walk_at "om") k
theorem quo_steps (ns : List Int) (hn : 1 ≤ n) (hr : 4 * n ≤ r) : ∀ l : List GT, okGs l = true → ∃ s, ∀ (T D : List PV) (d : Int) m, T.length + D.length + 2 * szGs l + 5 ≤ lim → U (SpF ns n) r ns 0 qT qB [1, 2] X F m (qst T (D ++ (encGs l).map (rdy true))) → U (SpF ns n) r ns 0 qT qB [1, 2] X F (m + s) (qst (T ++ (encGs l).reverse.map fun x => rd3 false x d) D) := fun y1_ y2_ => match y1_, y2_ with
  | [], z1_ => ⟨0, fun T D d m hl h => by simpa [encGs] using h⟩
  | g :: l, ok => by
    simp only [okGs, Bool.and_eq_true] at ok
    obtain ⟨s1, h1⟩ := quo_step ns hn hr g ok.1
    obtain ⟨s2, h2⟩ := quo_steps ns hn hr l ok.2
    refine ⟨s2 + s1, fun T D d m hl h => ?_⟩
    simp only [szGs] at hl
    have := szGs_len l
    have := szG_pos g
    have el := encGs_len l
    simp only [encGs, List.reverse_cons, List.map_append, List.map_cons, List.map_nil] at h ⊢
    rw [← List.append_assoc, ← Nat.add_assoc]
    refine h1 _ D d (m + s2) (by simp only [List.length_append, List.length_map, List.length_reverse]; omega) ?_
    refine h2 T _ d m (by simp only [List.length_append, List.length_cons, List.length_nil]; omega) ?_
    rw [List.append_assoc]
    exact h
end
end
/-- the head's number -/
noncomputable def kG : GT → Nat := fun y1_ => match y1_ with
  | .leaf k z1_ => k
  | .node z1_ z2_ => 0
theorem encG_kG : ∀ g : GT, ∃ l, encG g = .tup (.str (kG g) :: l) := fun y1_ => match y1_ with
  | .leaf k x => ⟨[x], by simp only [encG, kG]⟩
  | .node h l => ⟨[.str h, .tup (encGs l)], by simp only [encG, kG]⟩
theorem a333 {n r : Nat} {ns : List Int} {X : Prop} {R : MV → List MO → List MO → Prop} (hn : 2 ≤ n) (hr : 4 * n ≤ r) {g : GT} (ok : okG g = true) (hl : 2 * szG g + 10 ≤ lim) (k : R (.p (constP (kG g) (encG g))) [] []) : SpF ns n r 333 [.p (encG g)] [] R X := by
  refine sp_def rfl rfl rfl (by walk_at "om") hr rfl rfl rfl fun m r hm hr' => ?_
  repeat (walk_at "go")
  obtain ⟨s, hs⟩ := quo_step (X := X) (F := thenS (fun c₁ => vcB (SpF ns m) r ns 0 [.asgT [9, 10] (.sub (.lv 2) (.int 0)),
  .iff (.and (.not (.lv 9)) (.call (.gl 15) [(.lv 10), (.str 52)])) [.rai (.str 53)] [],
  .ret (.ite (.lv 9) (.call (.gl 22) [(.lv 10)]) (.lv 10))] X c₁ fun fl c => handBack 0 fl.val c R) fun fl c => handBack 0 fl.val c R) ns (show 1 ≤ m by omega) (show 4 * m ≤ r by omega) g ok
  refine s_whl [1, 2] (1 + s) (q := (qst [rd3 false (encG g) 1] [], [])) (by kernel_rfl!) ?_
  refine hs [] [] 1 1 (by simp only [List.length_nil]; omega) ?_
  refine u_step ?_
  repeat (walk_at "go")
  obtain ⟨l, el⟩ := encG_kG g
  rw [el] at k ⊢
  refine c_fn0 rfl fun f => a300 (by walk_at "om") (by walk_at "om") ?_
  repeat (walk_at "go")
  exact hb0 k
/-! ## own_names -/
@[reducible] noncomputable def oT : ME := (.cmp .ne (.lv 3) (.lst []))
@[reducible] noncomputable def oB : List MS := [.asg 4 (.meth (.lv 3) 25 []), .asg 5 (.call (.gl 16) [(.lv 4)]), .iff (.cmp .isin (.lv 5) (.gl 8)) [.cnt] [], .iff (.or (.cmp .eq (.lv 5) (.str 27)) (.cmp .isin (.lv 5) (.gl 9))) [.ex (.meth (.lv 1) 26 [(.call .bad [(.sub (.sub (.lv 4) (.int 2)) (.int 0))])])] [.iff (.cmp .isin (.lv 5) (.tup [(.str 28), (.str 29)])) [.asg 6 (.ite (.cmp .eq (.lv 5) (.str 28)) (.lv 1) (.lv 2)), .ex (.meth (.lv 6) 26 [(.call .bad [(.lv 4)])]), .ex (.meth (.lv 3) 26 [(.comp [1] [] 3 (.sub (.sub (.lv 1) (.int 2)) (.int 1)) (some (.call (.gl 15) [(.lv 1), (.str 27)])) (.slc (.sub (.lv 4) (.int 2)) none none true))]), .cnt] []], .ex (.meth (.lv 3) 26 [(.slc (.call (.gl 17) [(.lv 4)]) none none true)])]
@[reducible] noncomputable def ost (tr L : List PV) : AS := ⟨[none, some (.loc 1), some (.loc 2), some (.loc 3), none, none, none, none, none, none, none, none, none, none], [.lst tr, .lst [], .lst [], .lst L]⟩
theorem ost_norm {a b c d e f g h i j k : Option MV} {tr L : List PV} {σ₂ : List MO} : norm 1 [1, 2, 3] [] ⟨[a, some (.loc 1), some (.loc 2), some (.loc 3), b, c, d, e, f, g, h, i, j, k], .lst tr :: .lst [] :: .lst [] :: .lst L :: σ₂⟩ = some (ost tr L, []) := by kernel_rfl!
theorem ost_norm0 {a b c d e f g h i j k : Option MV} {tr x L : List PV} : norm 1 [1, 2, 3] [] ⟨[a, some (.loc 1), some (.loc 2), some (.loc 4), b, c, d, e, f, g, h, i, j, k], [.lst tr, .lst [], .lst [], .lst x, .lst L]⟩ = some (ost tr L, []) := by kernel_rfl!
section
variable {n r m : Nat} {ns : List Int} {X : Prop} {F : Fl → AS → Prop} {R : MV → List MO → List MO → Prop}
theorem own_skip (hn : 1 ≤ n) (hr : 4 * n ≤ r) {h : Nat} {l tr L : List PV} (hh : h = 13 ∨ h = 14) (hl : tr.length + L.length + 20 ≤ lim) (k : U (SpF ns n) r ns 1 oT oB [1, 2, 3] X F m (ost tr L)) :
    U (SpF ns n) r ns 1 oT oB [1, 2, 3] X F (m + 1) (ost tr (L ++ [.tup (.str 0 :: .str h :: l)])) := by
  refine u_step ?_
  repeat (walk_at "go")
  refine if_t (by simp) ?_
  repeat (walk_at "go")
  refine c_fn0 rfl fun f => a68 hn hr ?_
  rcases hh with rfl | rfl
  · repeat (walk_at "go")
    exact u_next (m' := m) (by walk_at "om") ost_norm k
  · repeat (walk_at "go")
    exact u_next (m' := m) (by walk_at "om") ost_norm k
theorem own_leaf (hn : 1 ≤ n) (hr : 4 * n ≤ r) {h : Nat} {l tr L : List PV} (hh : (h == 0) = false) (hl : tr.length + L.length + 20 ≤ lim) (k : U (SpF ns n) r ns 1 oT oB [1, 2, 3] X F m (ost tr L)) :
    U (SpF ns n) r ns 1 oT oB [1, 2, 3] X F (m + 1) (ost tr (L ++ [.tup (.str h :: l)])) := by
  refine u_step ?_
  repeat (walk_at "go")
  refine if_t (by simp) ?_
  repeat (walk_at "go")
  refine c_fn0 rfl fun f => a68f hn hr hh ?_
  repeat (walk_at "go")
  refine c_fn0 rfl fun f => a75f hn hr hh ?_
  repeat (walk_at "go")
  exact u_next (m' := m) (by walk_at "om") ost_norm (by rw [List.reverse_nil, List.append_nil]; exact k)
theorem own_node (hn : 1 ≤ n) (hr : 4 * n ≤ r) {h : Nat} {l tr L : List PV} (hh : h = 51 ∨ h = 68 ∨ h = 41) (hl : tr.length + L.length + l.length + 20 ≤ lim) (k : U (SpF ns n) r ns 1 oT oB [1, 2, 3] X F m (ost tr (L ++ l.reverse))) :
    U (SpF ns n) r ns 1 oT oB [1, 2, 3] X F (m + 1) (ost tr (L ++ [.tup [.str 0, .str h, .tup l]])) := by
  refine u_step ?_
  repeat (walk_at "go")
  refine if_t (by simp) ?_
  repeat (walk_at "go")
  refine c_fn0 rfl fun f => a68 hn hr ?_
  rcases hh with rfl | rfl | rfl
  all_goals
    repeat (walk_at "go")
    refine c_fn0 rfl fun f => a75 hn hr ?_
    repeat (walk_at "go")
    exact u_next (m' := m) (by walk_at "om") ost_norm k
end
/-- own_names finds nothing in it -/
noncomputable def OwnStep (ns : List Int) (x : PV) : Prop := ∀ n r (X : Prop) (F : Fl → AS → Prop), 1 ≤ n → 4 * n ≤ r → ∃ s, ∀ (tr L : List PV) m, tr.length + L.length + 40 ≤ lim → U (SpF ns n) r ns 1 oT oB [1, 2, 3] X F m (ost tr L) → U (SpF ns n) r ns 1 oT oB [1, 2, 3] X F (m + s) (ost tr (L ++ [x]))
@[reducible] noncomputable def escP (t : PV) : PV := .tup [.str 0, .str 14, .tup [t]]
theorem own_esc (ns) (t : PV) : OwnStep ns (escP t) := fun n r X F hn hr => ⟨1, fun tr L m hl k => own_skip hn hr (.inr rfl) (by walk_at "om") k⟩
theorem own_quo (ns) (t : PV) : OwnStep ns (.tup [.str 0, .str 13, .tup [t]]) := fun n r X F hn hr => ⟨1, fun tr L m hl k => own_skip hn hr (.inl rfl) (by walk_at "om") k⟩
theorem own_blk (ns) (t u : PV) : OwnStep ns (.tup [.str 0, .str 68, .tup [escP t, escP u]]) := fun n r X F hn hr => ⟨3, fun tr L m hl k => by
  refine own_node (m := m + 2) hn hr (.inr (.inl rfl)) (by simp only [List.length_cons, List.length_nil]; omega) ?_
  show U _ _ _ _ _ _ _ _ _ _ (ost tr (L ++ ([escP u] ++ [escP t])))
  rw [← List.append_assoc]
  refine own_skip (m := m + 1) hn hr (.inr rfl) (by simp only [List.length_append, List.length_cons, List.length_nil]; omega) ?_
  exact own_skip hn hr (.inr rfl) (by walk_at "om") k⟩
theorem own_mac (ns) (a : Nat) (x : PV) : OwnStep ns (.tup [.str 0, .str 41, .tup [.tup [.str 2, .str a], escP x]]) := fun n r X F hn hr => ⟨3, fun tr L m hl k => by
  refine own_node (m := m + 2) hn hr (.inr (.inr rfl)) (by simp only [List.length_cons, List.length_nil]; omega) ?_
  show U _ _ _ _ _ _ _ _ _ _ (ost tr (L ++ ([escP x] ++ [.tup [.str 2, .str a]])))
  rw [← List.append_assoc]
  refine own_leaf (m := m + 1) hn hr rfl (by simp only [List.length_append, List.length_cons, List.length_nil]; omega) ?_
  exact own_skip hn hr (.inr rfl) (by walk_at "om") k⟩
theorem own_call (ns) (a : Nat) (b : Nat) (x : PV) : OwnStep ns (.tup [.str 0, .str 51, .tup [.tup [.str 2, .str a], .tup [.str 0, .str 41, .tup [.tup [.str 2, .str b], escP x]]]]) := fun n r X F hn hr => by
  obtain ⟨s, hs⟩ := own_mac ns b x n r X F hn hr
  refine ⟨s + 1 + 1, fun tr L m hl k => ?_⟩
  rw [show m + (s + 1 + 1) = (m + s) + 1 + 1 by omega]
  refine own_node hn hr (.inl rfl) (by simp only [List.length_cons, List.length_nil]; omega) ?_
  show U _ _ _ _ _ _ _ _ _ _ (ost tr (L ++ ([.tup [.str 0, .str 41, .tup [.tup [.str 2, .str b], escP x]]] ++ [.tup [.str 2, .str a]])))
  rw [← List.append_assoc]
  refine own_leaf hn hr rfl (by simp only [List.length_append, List.length_cons, List.length_nil]; omega) ?_
  exact hs tr L m (by walk_at "om") k
theorem own_ever (ns) (a : Nat) : OwnStep ns (.tup [.str 0, .str 41, .tup [.tup [.str 2, .str a]]]) := fun n r X F hn hr => ⟨2, fun tr L m hl k => by
  refine own_node (m := m + 1) hn hr (.inr (.inr rfl)) (by simp only [List.length_cons, List.length_nil]; omega) ?_
  exact own_leaf hn hr rfl (by walk_at "om") k⟩
theorem a103 {n r : Nat} {ns : List Int} {X : Prop} {R : MV → List MO → List MO → Prop} (hn : 2 ≤ n) (hr : 4 * n ≤ r) {x : PV} (hx : OwnStep ns x) (k : R (.mt [.loc 1, .loc 2]) [.lst [x]] [.lst [], .lst []]) : SpF ns n r 103 [.loc 0] [.lst [x]] R X := by
  refine sp_def rfl rfl rfl (by walk_at "om") hr rfl rfl rfl fun m r hm hr' => ?_
  repeat (walk_at "go")
  obtain ⟨s, hs⟩ := hx m r X _ (show 1 ≤ m by omega) (show 4 * m ≤ r by omega)
  refine s_whl [1, 2, 3] (1 + s) (q := (ost [x] [x], [])) ost_norm0 ?_
  refine hs [x] [] 1 (show 41 ≤ lim by decide) ?_
  refine u_step ?_
  repeat (walk_at "go")
  exact hb_w (σ₁ := [.lst [x], .lst [], .lst []]) (w := .mt [.loc 1, .loc 2]) (by kernel_rfl!) k
/-! ## the renamer -/
@[reducible] noncomputable def RS (k : Int) (σ₂ : List MO) : List MO := .inst 280 2 :: .dct [] :: .dct [(32, .loc 3)] :: .inst 162 4 :: .dct [(30, mI k)] :: σ₂
theorem rs_hand {k : Int} {σ₂ : List MO} {x y : PV} : handOver (RS k σ₂) [.loc 0, .loc 1, .p x, .p y] = some ([0, 1, 2, 3, 4], [.loc 0, .loc 1, .p x, .p y], RS k []) := by kernel_rfl!
theorem rs_back {k : Int} {σ₂ : List MO} : takeBack (RS k σ₂) [0, 1, 2, 3, 4] (RS k []) [] = RS k σ₂ := by
  show RS k σ₂ ++ [] = _
  rw [List.append_nil]
theorem rs_backL {k : Int} {σ₂ : List MO} {l : List PV} : takeBack (RS k σ₂) [0, 1, 2, 3, 4] (RS k []) [.lst l] = RS k (σ₂ ++ [.lst l]) := rfl
theorem hbRS {k : Int} {σ₂ : List MO} {ρ : List (Option MV)} {x : PV} {R : MV → List MO → List MO → Prop} (h : R (.p x) (RS k []) []) : handBack 5 (.p x) ⟨ρ, RS k σ₂⟩ R := hb_p (σ₁ := RS k []) (by kernel_rfl!) h
theorem hbRSl {k : Int} {ρ : List (Option MV)} {l : List PV} {R : MV → List MO → List MO → Prop} (h : R (.loc 5) (RS k []) [.lst l]) : handBack 5 (.loc 5) ⟨ρ, RS k [.lst l]⟩ R := hb_w (σ₁ := RS k [.lst l]) (w := .loc 5) (by kernel_rfl!) h
/-- the renamer gives y for x -/
noncomputable def OfAt (ns : List Int) (a : Nat) (n r : Nat) (k : Int) (d : Int) (x y : PV) : Prop := ∀ (X : Prop) (R : MV → List MO → List MO → Prop), R (.p y) (RS k []) [] → SpF ns n r a [.loc 0, .loc 1, .p x, .p (.int d)] (RS k []) R X
noncomputable def OfL (ns : List Int) (n r : Nat) (k : Int) (d : Int) (xs ys : List PV) : Prop := ∀ (X : Prop) (R : MV → List MO → List MO → Prop), R (.loc 5) (RS k []) [.lst ys] → SpF ns n r 213 [.loc 0, .loc 1, .p (.tup xs), .p (.int d)] (RS k []) R X
section
variable {n r : Nat} {ns : List Int} {X : Prop} {ρ : List (Option MV)} {σ σ₂ : List MO} {Q : MV → AS → Prop} {kk d : Int}
theorem c_of {a x y} (h : OfAt ns a n r kk d x y) (q : Q (.p y) ⟨ρ, RS kk σ₂⟩) : vcFn (SpF ns n) r a [.loc 0, .loc 1, .p x, .p (.int d)] X ⟨ρ, RS kk σ₂⟩ Q :=
  c_fn rs_hand (h X _ (by rw [rs_back]; exact q))
theorem c_ofL {xs ys} (h : OfL ns n r kk d xs ys) (q : Q (.loc (σ₂.length + 5)) ⟨ρ, RS kk (σ₂ ++ [.lst ys])⟩) : vcFn (SpF ns n) r 213 [.loc 0, .loc 1, .p (.tup xs), .p (.int d)] X ⟨ρ, RS kk σ₂⟩ Q :=
  c_fn rs_hand (h X _ (by rw [rs_backL]; exact q))
theorem m_get {j k v} {P : MV × List MO → Prop} (e : σ[j]? = some (.dct [])) (hk : k < nStr) (h : P (v, σ)) : onP (vMeth σ .get (.loc j) [.p (.str k), v]) P := by
  refine on (a := (v, σ)) ?_ h
  have e1 : vMeth σ .get (.loc j) [.p (.str k), v] = both (fun k z_ => ifO (k < nStr) (v, σ)) (some k) (thenO isNil (thenO isDct σ[j]?)) := rfl
  rw [e1, e]
  exact if_pos hk
theorem on_cat {i j a b} {P : MV × List MO → Prop} (e : σ[i]? = some (.lst a)) (e' : σ[j]? = some (.lst b)) (hl : a.length + b.length ≤ lim) (h : P (.loc σ.length, σ ++ [.lst (a ++ b)])) : onP (vBin σ .add (.loc i) (.loc j)) P := by
  refine on (a := (.loc σ.length, σ ++ [.lst (a ++ b)])) ?_ h
  have e1 : vBin σ .add (.loc i) (.loc j) = both (fun a b => if a.length + b.length ≤ lim then some (.loc σ.length, σ ++ [.lst (a ++ b)]) else none) (thenO isLst σ[i]?) (thenO isLst σ[j]?) := rfl
  rw [e1, e, e']
  exact if_pos hl
theorem cut_from1 {x : PV} {l : List PV} {P : MV × List MO → Prop} (hl : (x :: l).length ≤ lim) (h : P (.p (.tup l), σ)) : onP (vCut σ (some 1) none false (.p (.tup (x :: l)))) P := on (a := (.p (.tup l), σ)) (by
  unfold vCut
  dsimp only
  rw [if_pos ⟨hl, rfl⟩]
  unfold cutOf
  dsimp only
  rw [if_pos ⟨by decide, by simp only [List.length_cons]; omega⟩]
  rfl) h
end
section
variable {n r : Nat} {ns : List Int} {k d : Int}
theorem of_esc (hn : 3 ≤ n) (hr : 4 * n ≤ r) (hd : d ≤ 120) (t : PV) : OfAt ns 220 n r k d (escP t) t := by
  intro X R q
  refine sp_def rfl rfl rfl (by walk_at "om") hr rfl rfl rfl fun m r hm hr' => ?_
  repeat (walk_at "go")
  refine if_f (decide_eq_false (by walk_at "om")) ?_
  repeat (walk_at "go")
  refine c_fn0 rfl fun f => a82 (by walk_at "om") (by walk_at "om") ?_
  repeat (walk_at "go")
  exact hbRS q
theorem of_sym (hn : 3 ≤ n) (hr : 4 * n ≤ r) (hd : d ≤ 120) (a : Nat) (ha : a < nStr) : OfAt ns 220 n r k d (.tup [.str 2, .str a]) (.tup [.str 2, .str a]) := by
  intro X R q
  refine sp_def rfl rfl rfl (by walk_at "om") hr rfl rfl rfl fun m r hm hr' => ?_
  repeat (walk_at "go")
  refine if_f (decide_eq_false (by walk_at "om")) ?_
  repeat (walk_at "go")
  refine c_fn0 rfl fun f => a82 (by walk_at "om") (by walk_at "om") ?_
  repeat (walk_at "go")
  refine m_get rfl ha ?_
  repeat (walk_at "go")
  exact hbRS q
theorem of_quo (hn : 3 ≤ n) (hr : 4 * n ≤ r) (hd : d ≤ 120) (g : GT) (ok : okG g = true) (hl : 2 * szG g + 20 ≤ lim) : OfAt ns 220 n r k d (.tup [.str 0, .str 13, .tup [encG g]]) (.tup [.str 0, .str 13, .tup [encG g]]) := by
  intro X R q
  refine sp_def rfl rfl rfl (by walk_at "om") hr rfl rfl rfl fun m r hm hr' => ?_
  repeat (walk_at "go")
  refine if_f (decide_eq_false (by walk_at "om")) ?_
  repeat (walk_at "go")
  refine c_fn0 rfl fun f => a82 (by walk_at "om") (by walk_at "om") ?_
  repeat (walk_at "go")
  have e : PV.tup [.str 0, .str 13, .tup [encG g]] = encG (.node 13 [g]) := by simp only [encG, encGs]
  refine c_fn0 rfl fun f => ?_
  rw [e] at q ⊢
  refine a173 (by walk_at "om") (by walk_at "om") (by simp only [okG, okGs, ok]; rfl) (by simp only [szG, szGs]; omega) ?_
  repeat (walk_at "go")
  exact hbRS q
theorem a213 (hn : 1 ≤ n) (hr : 4 * n ≤ r) (ps : List (PV × PV)) (hl : ps.length ≤ lim) (h : ∀ p ∈ ps, ∀ m r, n = m + 1 → 4 * m ≤ r → OfAt ns 220 m r k d p.1 p.2) : OfL ns n r k d (ps.map (·.1)) (ps.map (·.2)) := by
  intro X R q
  refine sp_def rfl rfl rfl (by walk_at "om") hr rfl rfl rfl fun m r hm hr' => ?_
  repeat (walk_at "go")
  refine e_comp ?_
  repeat (walk_at "go")
  have key : ∀ (ps : List (PV × PV)) (ys : List PV) (y0 : Option MV) (Q : AS → Prop), ys.length + ps.length ≤ lim → (∀ p ∈ ps, OfAt ns 220 m r k d p.1 p.2) → (∀ y0, Q ⟨[none, y0, some (.p (.int d)), some (.loc 1), some (.loc 0)], RS k [.lst (ys ++ ps.map (·.2))]⟩) →
      vcComp (vcE (SpF ns m) r ns False (.meth (.lv 4) 35 [.lv 3, .lv 1, .lv 2])) (vcC (SpF ns m) r ns False none) (stillAt (.p (.tup (ps.map (·.1)))) (RS k [])) [1] 5 (ps.map (·.1)) ⟨[none, y0, some (.p (.int d)), some (.loc 1), some (.loc 0)], RS k [.lst ys]⟩ Q := by
    intro ps
    induction ps with
    | nil =>
      intro ys y0 Q hl h k
      have := k y0
      simp only [List.map_nil, List.append_nil] at this
      exact this
    | cons p ps ih =>
      intro ys y0 Q hl h k
      simp only [List.length_cons] at hl
      rw [List.map_cons]
      show onP (some [none, some (MV.p p.1), some (MV.p (.int d)), some (.loc 1), some (.loc 0)]) _
      rw [onP_some]
      refine k_none ?_
      refine if_t rfl ?_
      repeat (walk_at "go")
      refine c_of (h p (.head _)) ?_
      refine ⟨by omega, trivial, ?_⟩
      refine ih (ys ++ [p.2]) _ Q (by simp only [List.length_append, List.length_cons, List.length_nil]; omega) (fun p hp => h p (.tail _ hp)) fun y0 => ?_
      have := k y0
      rw [List.map_cons] at this
      rw [List.append_assoc]
      exact this
  refine key ps [] none _ (by simpa using hl) (fun p hp => h p hp m r hm (by walk_at "om")) fun y0 => ?_
  repeat (walk_at "go")
  exact hbRSl q
theorem a232 (hn : 3 ≤ n) (hr : 4 * n ≤ r) (a : Nat) : OfAt ns 232 n r k d (.tup [.str 2, .str a]) (.tup [.str 2, .str a]) := by
  intro X R q
  refine sp_def rfl rfl rfl (by walk_at "om") hr rfl rfl rfl fun m r hm hr' => ?_
  repeat (walk_at "go")
  refine c_fn0 rfl fun f => a82 (by walk_at "om") (by walk_at "om") ?_
  repeat (walk_at "go")
  exact hbRS q
theorem a225 (hn : 5 ≤ n) (hr : 4 * n ≤ r) (a : Nat) (ps : List (PV × PV)) (hl : ps.length + 5 ≤ lim) (h : ∀ p ∈ ps, ∀ m r, n = m + 2 → 4 * m ≤ r → OfAt ns 220 m r k (d + 1) p.1 p.2) :
    OfAt ns 225 n r k d (.tup [.str 0, .str 41, .tup (.tup [.str 2, .str a] :: ps.map (·.1))]) (.tup [.str 0, .str 41, .tup (.tup [.str 2, .str a] :: ps.map (·.2))]) := by
  intro X R q
  refine sp_def rfl rfl rfl (by walk_at "om") hr rfl rfl rfl fun m r hm hr' => ?_
  repeat (walk_at "go")
  refine c_of (a232 (by walk_at "om") (by walk_at "om") a) ?_
  repeat (walk_at "go")
  refine cut_from1 (by simp only [List.length_cons, List.length_map]; omega) ?_
  repeat (walk_at "go")
  refine c_ofL (a213 (by walk_at "om") (by walk_at "om") ps (by walk_at "om") fun p hp m' r' e' hr'' => h p hp m' r' (by walk_at "om") hr'') ?_
  repeat (walk_at "go")
  refine on_cat rfl rfl (by simp only [List.length_cons, List.length_nil, List.length_map]; omega) ?_
  repeat (walk_at "go")
  refine c_fn_pl rfl (a54l (by walk_at "om") (by walk_at "om") (by simp only [List.length_append, List.length_cons, List.length_nil, List.length_map]; omega) ?_)
  repeat (walk_at "go")
  exact hbRS q
theorem of_mac (hn : 6 ≤ n) (hr : 4 * n ≤ r) (hd : d ≤ 120) (a : Nat) (ps : List (PV × PV)) (hl : ps.length + 5 ≤ lim) (h : ∀ p ∈ ps, ∀ m r, n = m + 3 → 4 * m ≤ r → OfAt ns 220 m r k (d + 1) p.1 p.2) :
    OfAt ns 220 n r k d (.tup [.str 0, .str 41, .tup (.tup [.str 2, .str a] :: ps.map (·.1))]) (.tup [.str 0, .str 41, .tup (.tup [.str 2, .str a] :: ps.map (·.2))]) := by
  intro X R q
  refine sp_def rfl rfl rfl (by walk_at "om") hr rfl rfl rfl fun m r hm hr' => ?_
  repeat (walk_at "go")
  refine if_f (decide_eq_false (by walk_at "om")) ?_
  repeat (walk_at "go")
  refine c_fn0 rfl fun f => a82 (by walk_at "om") (by walk_at "om") ?_
  repeat (walk_at "go")
  refine c_of (a225 (by walk_at "om") (by walk_at "om") a ps hl fun p hp m' r' e' hr'' => h p hp m' r' (by walk_at "om") hr'') ?_
  repeat (walk_at "go")
  exact hbRS q
theorem of_node (hn : 4 ≤ n) (hr : 4 * n ≤ r) (hd : d ≤ 120) (hh : Nat) (e : hh = 51 ∨ hh = 68) (ps : List (PV × PV)) (hl : ps.length + 5 ≤ lim) (h : ∀ p ∈ ps, ∀ m r, n = m + 2 → 4 * m ≤ r → OfAt ns 220 m r k (d + 1) p.1 p.2) :
    OfAt ns 220 n r k d (.tup [.str 0, .str hh, .tup (ps.map (·.1))]) (.tup [.str 0, .str hh, .tup (ps.map (·.2))]) := by
  intro X R q
  refine sp_def rfl rfl rfl (by walk_at "om") hr rfl rfl rfl fun m r hm hr' => ?_
  repeat (walk_at "go")
  refine if_f (decide_eq_false (by walk_at "om")) ?_
  repeat (walk_at "go")
  refine c_fn0 rfl fun f => a82 (by walk_at "om") (by walk_at "om") ?_
  rcases e with rfl | rfl
  all_goals
    repeat (walk_at "go")
    refine c_ofL (a213 (by walk_at "om") (by walk_at "om") ps (by walk_at "om") fun p hp m' r' e' hr'' => h p hp m' r' (by walk_at "om") hr'') ?_
    repeat (walk_at "go")
    refine c_fn_pl rfl (a54l (by walk_at "om") (by walk_at "om") (by simp only [List.length_map]; omega) ?_)
    repeat (walk_at "go")
    exact hbRS q
end
/-! ## renamed_locals -/
@[reducible] noncomputable def RO (l : List PV) (k : Int) : List MO := [.inst 280 3, .dct [], .lst l, .dct [(32, .loc 4)], .inst 162 5, .dct [(30, mI k)]]
@[reducible] noncomputable def SUP (k : Int) : List MO := [.inst 162 1, .dct [(30, mI k)]]
section
variable {n r : Nat} {ns : List Int} {X : Prop} {R : MV → List MO → List MO → Prop} {k : Int}
theorem a194 (hn : 1 ≤ n) (hr : 4 * n ≤ r) (q : R (.loc 6) (RO [] k) [.dct []]) : SpF ns n r 194 [.loc 0, .loc 1, .loc 2] (RO [] k) R X := by
  refine sp_def rfl rfl rfl (by walk_at "om") hr rfl rfl rfl fun m r hm hr' => ?_
  repeat (walk_at "go")
  refine s_for ?_
  repeat (walk_at "go")
  refine u_nil ?_
  repeat (walk_at "go")
  exact hb_w (σ₁ := RO [] k ++ [MO.dct []]) (w := .loc 6) (by kernel_rfl!) q
theorem a201 (hn : 4 ≤ n) (hr : 4 * n ≤ r) {x : PV} (hx : OwnStep ns x) (q : R (.loc 6) (RO [x] k) [.dct []]) : SpF ns n r 201 [.loc 0, .loc 1, .loc 2] (RO [x] k) R X := by
  refine sp_def rfl rfl rfl (by walk_at "om") hr rfl rfl rfl fun m r hm hr' => ?_
  repeat (walk_at "go")
  refine c_fn_l rfl (a103 (by walk_at "om") (by walk_at "om") hx ?_)
  refine on_items (a := [.loc 6, .loc 7]) rfl ?_
  repeat (walk_at "go")
  refine s_for ?_
  repeat (walk_at "go")
  refine u_nil ?_
  repeat (walk_at "go")
  refine c_fn (sel := [0, 1, 8, 3, 4, 5]) (ws := [.loc 0, .loc 1, .loc 2]) (σp := RO [] k) (by kernel_rfl!) (a194 (by walk_at "om") (by walk_at "om") ?_)
  repeat (walk_at "go")
  refine s_for ?_
  repeat (walk_at "go")
  refine u_nil ?_
  repeat (walk_at "go")
  exact hb_w (σ₁ := RO [x] k ++ [MO.dct []]) (w := .loc 6) (by kernel_rfl!) q
theorem a208 (hn : 6 ≤ n) (hr : 4 * n ≤ r) {x y : PV} (hx : OwnStep ns x) (ho : ∀ m r, n = m + 1 → 4 * m ≤ r → OfAt ns 220 m r k 0 x y) (q : R (.p y) (RS k []) []) : SpF ns n r 208 [.loc 0, .loc 1, .p x, .p (.int 0)] (RS k []) R X := by
  refine sp_def rfl rfl rfl (by walk_at "om") hr rfl rfl rfl fun m r hm hr' => ?_
  repeat (walk_at "go")
  refine c_fn (sel := [0, 1, 5, 2, 3, 4]) (ws := [.loc 0, .loc 1, .loc 2]) (σp := RO [x] k) (by kernel_rfl!) (a201 (by walk_at "om") (by walk_at "om") hx ?_)
  repeat (walk_at "go")
  refine c_fn (sel := [0, 6, 2, 3, 4]) (ws := [.loc 0, .loc 1, .p x, .p (.int 0)]) (σp := RS k []) (by kernel_rfl!) (ho m _ hm (by walk_at "om") _ _ ?_)
  repeat (walk_at "go")
  exact hb_p (σ₁ := RS k []) (by kernel_rfl!) q
theorem a187 (hn : 1 ≤ n) (hr : 4 * n ≤ r) (q : R mN [.inst 280 2, .inst 162 3, .dct [(32, .loc 1)], .dct [(30, mI k)]] []) : SpF ns n r 187 [.loc 0, .loc 1] [.inst 280 2, .inst 162 3, .dct [], .dct [(30, mI k)]] R X := by
  refine sp_def rfl rfl rfl (by walk_at "om") hr rfl rfl rfl fun m r hm hr' => ?_
  repeat (walk_at "go")
  exact hb_p (σ₁ := [.inst 280 2, .inst 162 3, .dct [(32, .loc 1)], .dct [(30, mI k)]]) (by kernel_rfl!) q
theorem a291 (hn : 8 ≤ n) (hr : 4 * n ≤ r) {x y : PV} (hx : OwnStep ns x) (ho : ∀ m r, n = m + 2 → 4 * m ≤ r → OfAt ns 220 m r k 0 x y) (q : R (.p y) (SUP k) []) : SpF ns n r 291 [.p x, .loc 0] (SUP k) R X := by
  refine sp_def rfl rfl rfl (by walk_at "om") hr rfl rfl rfl fun m r hm hr' => ?_
  repeat (walk_at "go")
  refine c_cls rfl (by walk_at "om") ?_
  refine c_fn (sel := [3, 0, 2, 1]) (ws := [.loc 0, .loc 1]) (σp := [.inst 280 2, .inst 162 3, .dct [], .dct [(30, mI k)]]) (by kernel_rfl!) (a187 (by walk_at "om") (by walk_at "om") ?_)
  refine ⟨rfl, ?_⟩
  repeat (walk_at "go")
  refine c_fn (sel := [3, 4, 2, 0, 1]) (ws := [.loc 0, .loc 1, .p x, .p (.int 0)]) (σp := RS k []) (by kernel_rfl!) (a208 (by walk_at "om") (by walk_at "om") hx (fun m' r' e' hr'' => ho m' r' (by walk_at "om") hr'') ?_)
  repeat (walk_at "go")
  exact hb_p (σ₁ := SUP k) (by kernel_rfl!) q
end
/-- what the renamer leaves of it -/
noncomputable def toldDone : Nat → PV → PV := fun y1_ y2_ => match y1_, y2_ with
  | 0, t => t
  | 1, t => .tup [.str 0, .str 68, .tup [t, t]]
  | 2, t => t
  | 3, t => .tup [.str 0, .str 51, .tup [.tup [.str 2, .str 69], .tup [.str 0, .str 41, .tup [.tup [.str 2, .str 62], t]]]]
  | 4, t => .tup [.str 0, .str 13, .tup [t]]
  | z1_, z2_ => .tup [.str 0, .str 41, .tup [.tup [.str 2, .str 67]]]
theorem lt2 {w : Nat} (h : w < 2) : w = 0 ∨ w = 1 := (Nat.lt_succ_iff_lt_or_eq.mp h).imp_left Nat.lt_one_iff.mp
theorem lt5 {w : Nat} (h : w < 5) : (((w = 0 ∨ w = 1) ∨ w = 2) ∨ w = 3) ∨ w = 4 :=
  (Nat.lt_succ_iff_lt_or_eq.mp h).imp_left fun h => (Nat.lt_succ_iff_lt_or_eq.mp h).imp_left fun h => (Nat.lt_succ_iff_lt_or_eq.mp h).imp_left lt2
theorem lt6 {w : Nat} (h : w < 6) : ((((w = 0 ∨ w = 1) ∨ w = 2) ∨ w = 3) ∨ w = 4) ∨ w = 5 := (Nat.lt_succ_iff_lt_or_eq.mp h).imp_left lt5
theorem told_ok {n r : Nat} {ns : List Int} {X : Prop} {R : MV → List MO → List MO → Prop} {k : Int} (hn : 20 ≤ n) (hr : 4 * n ≤ r) (j : Nat) (hj : j < 6) (g : GT) (ok : okG g = true) (hl : 2 * szG g + 20 ≤ lim) (q : R (.p (toldDone j (encG g))) (SUP k) []) : SpF ns n r 291 [.p (toldRaw j (encG g)), .loc 0] (SUP k) R X := by
  have small5 : 2 + 5 ≤ lim := by decide
  rcases lt6 hj with ((((rfl | rfl) | rfl) | rfl) | rfl) | rfl
  · exact a291 (by walk_at "om") hr (own_esc ns _) (fun m r e hr => of_esc (by walk_at "om") hr (by decide) _) q
  · refine a291 (by walk_at "om") hr (own_blk ns _ _) (fun m r e hr => of_node (by walk_at "om") hr (by decide) 68 (.inr rfl) [(escP (encG g), encG g), (escP (encG g), encG g)] small5 fun p hp m' r' e' hr' => ?_) q
    rcases List.mem_cons.mp hp with rfl | hp
    · exact of_esc (by walk_at "om") hr' (by decide) _
    · rcases List.mem_cons.mp hp with rfl | hp
      · exact of_esc (by walk_at "om") hr' (by decide) _
      · cases hp
  · exact a291 (by walk_at "om") hr (own_esc ns _) (fun m r e hr => of_esc (by walk_at "om") hr (by decide) _) q
  · refine a291 (by walk_at "om") hr (own_call ns _ _ _) (fun m r e hr => of_node (by walk_at "om") hr (by decide) 51 (.inl rfl) [(.tup [.str 2, .str 69], .tup [.str 2, .str 69]), (.tup [.str 0, .str 41, .tup [.tup [.str 2, .str 62], escP (encG g)]], .tup [.str 0, .str 41, .tup [.tup [.str 2, .str 62], encG g]])] small5 fun p hp m' r' e' hr' => ?_) q
    rcases List.mem_cons.mp hp with rfl | hp
    · exact of_sym (by walk_at "om") hr' (by decide) _ (by decide)
    · rcases List.mem_cons.mp hp with rfl | hp
      · refine of_mac (by walk_at "om") hr' (by decide) 62 [(escP (encG g), encG g)] (show 1 + 5 ≤ lim by decide) fun p hp m' r' e' hr' => ?_
        rcases List.mem_cons.mp hp with rfl | hp
        · exact of_esc (by walk_at "om") hr' (by decide) _
        · cases hp
      · cases hp
  · exact a291 (by walk_at "om") hr (own_quo ns _) (fun m r e hr => of_quo (by walk_at "om") hr (by decide) g ok hl) q
  · exact a291 (by walk_at "om") hr (own_ever ns _) (fun m r e hr => of_mac (by walk_at "om") hr (by decide) 67 [] (by decide) fun p hp => nomatch hp) q
/-! ## the expander -/
@[reducible] noncomputable def macD (i : Nat) : MO := .dct [(62, .loc i), (63, .loc (i + 1)), (64, .loc (i + 2)), (65, .loc (i + 3)), (66, .loc (i + 4)), (67, .loc (i + 5))]
@[reducible] noncomputable def ES (f k : Int) (σ₂ : List MO) : List MO := .inst 371 1 :: .dct [(54, .loc 2), (32, .loc 3), (55, mI f)] :: .dct [(62, .loc 4), (63, .loc 5), (64, .loc 6), (65, .loc 7), (66, .loc 8), (67, .loc 9)] :: .inst 162 10 :: .fn 0 :: .fn 1 :: .fn 2 :: .fn 3 :: .fn 4 :: .fn 5 :: .dct [(30, mI k)] :: σ₂
theorem es_hand {f k : Int} {σ₂ : List MO} {x : PV} : handOver (ES f k σ₂) [.loc 0, .p x] = some ([0, 1, 2, 3, 4, 5, 6, 7, 8, 9, 10], [.loc 0, .p x], ES f k []) := by kernel_rfl!
theorem es_back {f f' k : Int} {σ₂ : List MO} : takeBack (ES f k σ₂) [0, 1, 2, 3, 4, 5, 6, 7, 8, 9, 10] (ES f' k []) [] = ES f' k σ₂ := by
  show ES f' k σ₂ ++ [] = _
  rw [List.append_nil]
theorem es_sup {k : Int} {es ds : List (Nat × MV)} {σ₂ : List MO} {x : PV} : handOver (.inst 371 1 :: .dct es :: .dct ds :: .inst 162 10 :: .fn 0 :: .fn 1 :: .fn 2 :: .fn 3 :: .fn 4 :: .fn 5 :: .dct [(30, mI k)] :: σ₂) [.p x, .loc 3] = some ([3, 10], [.p x, .loc 0], SUP k) := by kernel_rfl!
theorem hbES {f k : Int} {σ₂ : List MO} {ρ : List (Option MV)} {x : PV} {R : MV → List MO → List MO → Prop} (h : R (.p x) (ES f k []) []) : handBack 11 (.p x) ⟨ρ, ES f k σ₂⟩ R := hb_p (σ₁ := ES f k []) (by kernel_rfl!) h
section
variable {n r : Nat} {ns : List Int} {X : Prop} {ρ : List (Option MV)} {σ σ₂ : List MO} {Q : MV → AS → Prop} {R : MV → List MO → List MO → Prop} {f k : Int}
theorem aLams (hn : 2 ≤ n) (hr : 4 * n ≤ r) {j : Nat} (hj : j < 5) {t : PV} {l : List PV} (q : R (.p (toldRaw j t)) [.lst (t :: l)] []) : SpF ns n r (1000 + j) [.loc 0] [.lst (t :: l)] R X := by
  rcases lt5 hj with (((rfl | rfl) | rfl) | rfl) | rfl
  · exact aLam0 hn hr q
  · exact aLam1 hn hr q
  · exact aLam2 hn hr q
  · exact aLam3 hn hr q
  · exact aLam4 hn hr q
theorem a354 (hn : 24 ≤ n) (hr : 4 * n ≤ r) {j : Nat} (hj : j < 5) {g : GT} (ok : okG g = true) (hl : 2 * szG g + 20 ≤ lim) {l : List PV} (hl' : l.length + 5 ≤ lim) (q : 0 < f → R (.p (toldDone j (encG g))) (ES (f - 1) k []) []) (hX : f ≤ 0 → X) :
    SpF ns n r 354 [.loc 0, .p (.tup [.str 0, .str 41, .tup (.tup [.str 2, .str (62 + j)] :: encG g :: l)])] (ES f k []) R X := by
  refine sp_def rfl rfl rfl (by walk_at "om") hr rfl rfl rfl fun m r hm hr' => ?_
  have hcut : (PV.tup [.str 2, .str (62 + j)] :: encG g :: l).length ≤ lim := by simp only [List.length_cons]; omega
  have hlst : (encG g :: l).length ≤ lim := by simp only [List.length_cons]; omega
  rcases lt5 hj with (((rfl | rfl) | rfl) | rfl) | rfl
  all_goals
    repeat (walk_at "go")
    by_cases hf : f ≤ 0
    · refine if_t (decide_eq_true hf) ?_
      refine b_cons (s_rai (e_str ?_))
      exact hX hf
    · refine if_f (decide_eq_false hf) ?_
      repeat (walk_at "go")
      refine cut_from1 hcut ?_
      repeat (walk_at "go")
      refine c_loc rfl ?_
      refine c_fn_l rfl (aLams (by walk_at "om") (by walk_at "om") hj ?_)
      repeat (walk_at "go")
      refine c_fn es_sup (told_ok (by walk_at "om") (by walk_at "om") _ (by decide) g ok hl ?_)
      repeat (walk_at "go")
      exact hbES (q (by walk_at "om"))
/-! settled -/
@[reducible] noncomputable def sT : ME := (.and (.cmp .eq (.sub (.lv 1) (.int 0)) (.str 0)) (.cmp .isin (.sub (.lv 1) (.int 1)) (.tup [(.str 41), (.str 13), (.str 14)])))
@[reducible] noncomputable def sB : List MS := [.iff (.cmp .eq (.sub (.lv 1) (.int 1)) (.str 41)) [.asg 1 (.meth (.lv 0) 59 [(.lv 1)])] [.asg 1 (.ite (.cmp .eq (.sub (.lv 1) (.int 1)) (.str 13)) (.call (.gl 26) [(.sub (.sub (.lv 1) (.int 2)) (.int 0))]) (.sub (.sub (.lv 1) (.int 2)) (.int 0)))]]
@[reducible] noncomputable def sst (f k : Int) (x : PV) : AS := ⟨[some (.loc 0), some (.p x), none, none], ES f k []⟩
theorem sst_norm {f k : Int} {x : PV} : norm 11 [0, 1] [] ⟨[some (.loc 0), some (.p x), none, none], ES f k []⟩ = some (sst f k x, []) := by kernel_rfl!
variable {F : Fl → AS → Prop} {m : Nat}
theorem set_told (hn : 25 ≤ n) (hr : 4 * n ≤ r) {j : Nat} (hj : j < 5) {g : GT} (ok : okG g = true) (hl : 2 * szG g + 20 ≤ lim) {l : List PV} (hl' : l.length + 5 ≤ lim) (q : 0 < f → U (SpF ns n) r ns 11 sT sB [0, 1] X F m (sst (f - 1) k (toldDone j (encG g)))) (hX : f ≤ 0 → X) :
    U (SpF ns n) r ns 11 sT sB [0, 1] X F (m + 1) (sst f k (.tup [.str 0, .str 41, .tup (.tup [.str 2, .str (62 + j)] :: encG g :: l)])) := by
  refine u_step ?_
  repeat (walk_at "go")
  refine c_fn es_hand (a354 (by walk_at "om") (by walk_at "om") hj ok hl hl' (fun hf => ?_) hX)
  rw [es_back]
  repeat (walk_at "go")
  exact u_next (m' := m) (by walk_at "om") sst_norm (q hf)
theorem set_quo (hn : 25 ≤ n) (hr : 4 * n ≤ r) {g : GT} (ok : okG g = true) (hl : 2 * szG g + 20 ≤ lim) (q : U (SpF ns n) r ns 11 sT sB [0, 1] X F m (sst f k (constP (kG g) (encG g)))) :
    U (SpF ns n) r ns 11 sT sB [0, 1] X F (m + 1) (sst f k (.tup [.str 0, .str 13, .tup [encG g]])) := by
  refine u_step ?_
  repeat (walk_at "go")
  refine c_fn0 rfl fun f' => a333 (by walk_at "om") (by walk_at "om") ok (by walk_at "om") ?_
  repeat (walk_at "go")
  exact u_next (m' := m) (by walk_at "om") sst_norm q
theorem set_leaf {h : Nat} {l : List PV} (hh : (h == 0) = false) (q : F .nxt ⟨[some (.loc 0), some (.p (.tup (.str h :: l))), none, none], ES f k []⟩) : U (SpF ns n) r ns 11 sT sB [0, 1] X F m (sst f k (.tup (.str h :: l))) := by
  refine u_step ?_
  repeat (walk_at "go")
  rw [hh]
  repeat (walk_at "go")
  exact q
theorem set_node {h : Nat} {l : List PV} (hh : h = 51 ∨ h = 68 ∨ h = 49) (q : F .nxt ⟨[some (.loc 0), some (.p (.tup (.str 0 :: .str h :: l))), none, none], ES f k []⟩) : U (SpF ns n) r ns 11 sT sB [0, 1] X F m (sst f k (.tup (.str 0 :: .str h :: l))) := by
  refine u_step ?_
  rcases hh with rfl | rfl | rfl
  all_goals
    repeat (walk_at "go")
    exact q
end
/-! ## the law's trees -/
inductive LT where
  | sym (k : Nat)
  | four
  | call2 (a b : LT)
  | call3 (a b c : LT)
  | blk1 (a : LT)
  | blk2 (a b : LT)
  | quo (a : LT)
  | same (a : LT)
  | twice (a : LT)
  | first (a b : LT)
  | other (a : LT)
  | word (a : LT)
noncomputable def toG : LT → GT := fun y1_ => match y1_ with
  | .sym k => .leaf 2 (.str k)
  | .four => .leaf 71 (.int 4)
  | .call2 a b => .node 51 [toG a, toG b]
  | .call3 a b c => .node 51 [toG a, toG b, toG c]
  | .blk1 a => .node 68 [toG a]
  | .blk2 a b => .node 68 [toG a, toG b]
  | .quo a => .node 13 [toG a]
  | .same a => .node 41 [.leaf 2 (.str 62), toG a]
  | .twice a => .node 41 [.leaf 2 (.str 63), toG a]
  | .first a b => .node 41 [.leaf 2 (.str 64), toG a, toG b]
  | .other a => .node 41 [.leaf 2 (.str 65), toG a]
  | .word a => .node 41 [.leaf 2 (.str 66), toG a]
@[reducible] noncomputable def enc (t : LT) : PV := encG (toG t)
@[reducible] noncomputable def szT (t : LT) : Nat := szG (toG t)
/-- what stands quoted -/
@[reducible] noncomputable def constT (t : LT) : PV := constP (kG (toG t)) (enc t)
/-- expanded -/
noncomputable def eT : LT → PV := fun y1_ => match y1_ with
  | .sym k => .tup [.str 2, .str k]
  | .four => .tup [.str 71, .int 4]
  | .call2 a b => .tup [.str 0, .str 51, .tup [eT a, eT b]]
  | .call3 a b c => .tup [.str 0, .str 51, .tup [eT a, eT b, eT c]]
  | .blk1 a => .tup [.str 0, .str 68, .tup [eT a]]
  | .blk2 a b => .tup [.str 0, .str 68, .tup [eT a, eT b]]
  | .quo a => constT a
  | .same a => eT a
  | .twice a => .tup [.str 0, .str 68, .tup [eT a, eT a]]
  | .first a z1_ => eT a
  | .other a => .tup [.str 0, .str 51, .tup [.tup [.str 2, .str 69], eT a]]
  | .word a => constT a
/-- how many macros are told -/
noncomputable def cost : LT → Nat := fun y1_ => match y1_ with
  | .sym _ | .four | .quo _ => 0
  | .call2 a b => cost a + cost b
  | .call3 a b c => cost a + (cost b + cost c)
  | .blk1 a => cost a
  | .blk2 a b => cost a + cost b
  | .same a => 1 + cost a
  | .twice a => 1 + cost a + cost a
  | .first a z1_ => 1 + cost a
  | .other a => 2 + cost a
  | .word z1_ => 1
inductive HT where
  | leaf (v : PV)
  | node (h : Nat) (l : List LT)
noncomputable def cost0 : LT → Nat := fun y1_ => match y1_ with
  | .same a => 1 + cost0 a
  | .first a z1_ => 1 + cost0 a
  | .twice _ | .other _ | .word _ => 1
  | z1_ => 0
noncomputable def hdT : LT → HT := fun y1_ => match y1_ with
  | .sym k => .leaf (.tup [.str 2, .str k])
  | .four => .leaf (.tup [.str 71, .int 4])
  | .call2 a b => .node 51 [a, b]
  | .call3 a b c => .node 51 [a, b, c]
  | .blk1 a => .node 68 [a]
  | .blk2 a b => .node 68 [a, b]
  | .quo a => .leaf (constT a)
  | .same a => hdT a
  | .twice a => .node 68 [a, a]
  | .first a z1_ => hdT a
  | .other a => .node 51 [.sym 69, .same a]
  | .word a => .leaf (constT a)
noncomputable def encH : HT → PV := fun y1_ => match y1_ with
  | .leaf v => v
  | .node h l => .tup [.str 0, .str h, .tup (l.map enc)]
theorem okT : ∀ t : LT, okG (toG t) = true := fun y1_ => match y1_ with
  | .sym z1_ => rfl
  | .four => rfl
  | .call2 a b => by simp [toG, okG, okGs, okT a, okT b]
  | .call3 a b c => by simp [toG, okG, okGs, okT a, okT b, okT c]
  | .blk1 a => by simp [toG, okG, okGs, okT a]
  | .blk2 a b => by simp [toG, okG, okGs, okT a, okT b]
  | .quo a => by simp [toG, okG, okGs, okT a]
  | .same a => by simp [toG, okG, okGs, okT a]
  | .twice a => by simp [toG, okG, okGs, okT a]
  | .first a b => by simp [toG, okG, okGs, okT a, okT b]
  | .other a => by simp [toG, okG, okGs, okT a]
  | .word a => by simp [toG, okG, okGs, okT a]
theorem constP_leaf (g : GT) (ok : okG g = true) : ∃ h l, constP (kG g) (encG g) = .tup (.str h :: l) ∧ (h == 0) = false := by
  unfold constP
  cases h2 : (kG g == 2)
  · rw [if_neg (by decide)]
    cases h0 : (kG g == 0)
    · rw [if_neg (by decide)]
      obtain ⟨l, e⟩ := encG_kG g
      exact ⟨_, l, e, h0⟩
    · rw [if_pos rfl]
      exact ⟨47, _, rfl, rfl⟩
  · rw [if_pos rfl]
    exact ⟨47, _, rfl, rfl⟩
/-- what settled hands back -/
noncomputable def Set1 (x : PV) : Prop := (∃ h l, x = .tup (.str h :: l) ∧ (h == 0) = false) ∨ (∃ h l, x = .tup [.str 0, .str h, .tup l] ∧ (h = 51 ∨ h = 68))
theorem hdT_set : ∀ t : LT, (∃ v h l, hdT t = .leaf v ∧ v = .tup (.str h :: l) ∧ (h == 0) = false) ∨ (∃ h l, hdT t = .node h l ∧ (h = 51 ∨ h = 68)) := fun y1_ => match y1_ with
  | .sym k => .inl ⟨_, _, _, rfl, rfl, rfl⟩
  | .four => .inl ⟨_, _, _, rfl, rfl, rfl⟩
  | .call2 a b => .inr ⟨_, _, rfl, .inl rfl⟩
  | .call3 a b c => .inr ⟨_, _, rfl, .inl rfl⟩
  | .blk1 a => .inr ⟨_, _, rfl, .inr rfl⟩
  | .blk2 a b => .inr ⟨_, _, rfl, .inr rfl⟩
  | .quo a => by
    obtain ⟨h, l, e, eh⟩ := constP_leaf (toG a) (okT a)
    exact .inl ⟨_, h, l, rfl, e, eh⟩
  | .same a => hdT_set a
  | .twice a => .inr ⟨_, _, rfl, .inr rfl⟩
  | .first a z1_ => hdT_set a
  | .other a => .inr ⟨_, _, rfl, .inl rfl⟩
  | .word a => by
    obtain ⟨h, l, e, eh⟩ := constP_leaf (toG a) (okT a)
    exact .inl ⟨_, h, l, rfl, e, eh⟩
section
variable {n r : Nat} {ns : List Int} {X : Prop} {k : Int} {F : Fl → AS → Prop}
/-- what the while of settled does with a tree -/
@[reducible] noncomputable def Stl (ns : List Int) (n r : Nat) (X : Prop) (k : Int) (F : Fl → AS → Prop) (t : LT) : Prop := ∃ s, ∀ f : Int, 0 ≤ f → ((cost0 t : Int) ≤ f → F .nxt ⟨[some (.loc 0), some (.p (encH (hdT t))), none, none], ES (f - cost0 t) k []⟩) → (f < cost0 t → X) →
    U (SpF ns n) r ns 11 sT sB [0, 1] X F s (sst f k (enc t))
theorem stl0 {t : LT} (s : Nat) (e : cost0 t = 0) (w : ∀ f, F .nxt ⟨[some (.loc 0), some (.p (encH (hdT t))), none, none], ES f k []⟩ → U (SpF ns n) r ns 11 sT sB [0, 1] X F s (sst f k (enc t))) : Stl ns n r X k F t :=
  ⟨s, fun f hf q z_ => w f (by rw [e] at q; have q := q hf; rwa [show f - ((0 : Nat) : Int) = f from Int.sub_zero f] at q)⟩
theorem stl1 {G : Int → Prop} {c : Nat} {f : Int} (q : ((1 + c : Nat) : Int) ≤ f → G (f - ((1 + c : Nat) : Int))) (hX : f < ((1 + c : Nat) : Int) → X) : (f ≤ 0 → X) ∧ (0 < f → 0 ≤ f - 1 ∧ ((c : Int) ≤ f - 1 → G (f - 1 - c)) ∧ (f - 1 < c → X)) := by
  have e : f - 1 - c = f - ((1 + c : Nat) : Int) := by omega
  rw [e]
  exact ⟨fun h => hX (by omega), fun h => ⟨by omega, fun g => q (by omega), fun g => hX (by omega)⟩⟩
theorem stl2 {G : Int → Prop} {f : Int} (q : ((1 : Nat) : Int) ≤ f → G (f - ((1 : Nat) : Int))) (hX : f < ((1 : Nat) : Int) → X) : (f ≤ 0 → X) ∧ (0 < f → G (f - 1)) :=
  ⟨fun h => hX (Int.lt_add_one_iff.mpr h), fun h => q h⟩
theorem sz_lim {a : Nat} (h : 2 * (1 + (1 + (a + 0))) + 30 ≤ lim) : 2 * a + 30 ≤ lim := by omega
theorem sz_lim2 {a b : Nat} (h : 2 * (1 + (1 + (a + (b + 0)))) + 30 ≤ lim) : 2 * a + 30 ≤ lim := by omega
theorem sz_lim1 {a : Nat} (h : 2 * (1 + (a + 0)) + 30 ≤ lim) : 2 * a + 30 ≤ lim := by omega
theorem lim30 {a : Nat} (h : a + 30 ≤ lim) : a + 20 ≤ lim := Nat.le_trans (Nat.add_le_add_left (by decide) a) h
/-- the while of settled -/
theorem settle (ns : List Int) (hn : 25 ≤ n) (hr : 4 * n ≤ r) : ∀ (t : LT), 2 * szT t + 30 ≤ lim → Stl ns n r X k F t := by
  have one : 1 + 5 ≤ lim := by decide
  have zero : 0 + 5 ≤ lim := by decide
  intro t
  induction t with
  | sym a => exact fun z_ => stl0 1 rfl fun f q => set_leaf (h := 2) (l := [.str a]) rfl q
  | four => exact fun z_ => stl0 1 rfl fun f q => set_leaf (h := 71) (l := [.int 4]) rfl q
  | call2 a b => exact fun z_ => stl0 1 rfl fun f q => set_node (h := 51) (l := [.tup [enc a, enc b]]) (.inl rfl) q
  | call3 a b c => exact fun z_ => stl0 1 rfl fun f q => set_node (h := 51) (l := [.tup [enc a, enc b, enc c]]) (.inl rfl) q
  | blk1 a => exact fun z_ => stl0 1 rfl fun f q => set_node (h := 68) (l := [.tup [enc a]]) (.inr (.inl rfl)) q
  | blk2 a b => exact fun z_ => stl0 1 rfl fun f q => set_node (h := 68) (l := [.tup [enc a, enc b]]) (.inr (.inl rfl)) q
  | quo a =>
    intro hl
    refine stl0 (1 + 1) rfl fun f q => ?_
    refine set_quo hn hr (okT a) (lim30 (sz_lim1 hl)) ?_
    obtain ⟨h, l, e1, e2⟩ := constP_leaf (toG a) (okT a)
    replace q : F .nxt ⟨[some (.loc 0), some (.p (constP (kG (toG a)) (encG (toG a)))), none, none], ES f k []⟩ := q
    rw [e1] at q ⊢
    exact set_leaf e2 q
  | same a ih =>
    intro hl
    have hl := sz_lim hl
    obtain ⟨s, hs⟩ := ih hl
    refine ⟨s + 1, fun f hf q hX => ?_⟩
    obtain ⟨g1, g2⟩ := stl1 (G := fun f => F .nxt ⟨[some (.loc 0), some (.p (encH (hdT a))), none, none], ES f k []⟩) q hX
    exact set_told (j := 0) (l := []) hn hr (by decide) (okT a) (lim30 hl) zero (fun hf' => have ⟨x1, x2, x3⟩ := g2 hf'; hs (f - 1) x1 x2 x3) g1
  | twice a =>
    intro hl
    refine ⟨1 + 1, fun f hf q hX => ?_⟩
    obtain ⟨g1, g2⟩ := stl2 (G := fun f => F .nxt ⟨[some (.loc 0), some (.p (encH (hdT (.twice a)))), none, none], ES f k []⟩) q hX
    exact set_told (j := 1) (l := []) hn hr (by decide) (okT a) (lim30 (sz_lim hl)) zero (fun hf' => set_node (.inr (.inl rfl)) (g2 hf')) g1
  | first a b ih z1_ =>
    intro hl
    have hl := sz_lim2 hl
    obtain ⟨s, hs⟩ := ih hl
    refine ⟨s + 1, fun f hf q hX => ?_⟩
    obtain ⟨g1, g2⟩ := stl1 (G := fun f => F .nxt ⟨[some (.loc 0), some (.p (encH (hdT a))), none, none], ES f k []⟩) q hX
    exact set_told (j := 2) (l := [enc b]) hn hr (by decide) (okT a) (lim30 hl) one (fun hf' => have ⟨x1, x2, x3⟩ := g2 hf'; hs (f - 1) x1 x2 x3) g1
  | other a =>
    intro hl
    refine ⟨1 + 1, fun f hf q hX => ?_⟩
    obtain ⟨g1, g2⟩ := stl2 (G := fun f => F .nxt ⟨[some (.loc 0), some (.p (encH (hdT (.other a)))), none, none], ES f k []⟩) q hX
    exact set_told (j := 3) (l := []) hn hr (by decide) (okT a) (lim30 (sz_lim hl)) zero (fun hf' => set_node (.inl rfl) (g2 hf')) g1
  | word a =>
    intro hl
    have hl := lim30 (sz_lim hl)
    refine ⟨1 + 1 + 1, fun f hf q hX => ?_⟩
    obtain ⟨g1, g2⟩ := stl2 (G := fun f => F .nxt ⟨[some (.loc 0), some (.p (constP (kG (toG a)) (encG (toG a)))), none, none], ES f k []⟩) q hX
    refine set_told (j := 4) (l := []) hn hr (by decide) (okT a) hl zero (fun hf' => ?_) g1
    refine set_quo hn hr (okT a) hl ?_
    have q := g2 hf'
    obtain ⟨h, l, e1, e2⟩ := constP_leaf (toG a) (okT a)
    rw [e1] at q ⊢
    exact set_leaf e2 q
end
theorem a361 {n r : Nat} {ns : List Int} {X : Prop} {R : MV → List MO → List MO → Prop} {f k : Int} (hn : 26 ≤ n) (hr : 4 * n ≤ r) (t : LT) (hl : 2 * szT t + 30 ≤ lim) (hf : 0 ≤ f) (q : (cost0 t : Int) ≤ f → R (.p (encH (hdT t))) (ES (f - cost0 t) k []) []) (hX : f < cost0 t → X) :
    SpF ns n r 361 [.loc 0, .p (enc t)] (ES f k []) R X := by
  refine sp_def rfl rfl rfl (by walk_at "om") hr rfl rfl rfl fun m r hm hr' => ?_
  refine b_cons ?_
  obtain ⟨s, hs⟩ := settle (X := X) (k := k) (F := thenS (fun c₁ => vcB (SpF ns m) r ns 11 [.iff (.and (.cmp .eq (.sub (.lv 1) (.int 0)) (.str 0)) (.cmp .eq (.sub (.lv 1) (.int 1)) (.str 49))) [.rai (.str 58)] [], .ret (.lv 1)] X c₁ fun fl c => handBack 11 fl.val c R) fun fl c => handBack 11 fl.val c R) ns (show 25 ≤ m by omega) (show 4 * m ≤ r by omega) t hl
  refine s_whl [0, 1] s (q := (sst f k (enc t), [])) (by kernel_rfl!) ?_
  refine hs f hf (fun hc => ?_) hX
  have q := q hc
  rcases hdT_set t with ⟨v, h, l, e, ev, eh⟩ | ⟨h, l, e, eh⟩
  · rw [e] at q ⊢
    simp only [encH] at q ⊢
    subst ev
    repeat (walk_at "go")
    rw [eh]
    repeat (walk_at "go")
    exact hbES q
  · rw [e] at q ⊢
    simp only [encH] at q ⊢
    rcases eh with rfl | rfl
    all_goals
      repeat (walk_at "go")
      exact hbES q
/-! ## run -/
@[reducible] noncomputable def rT : ME := (.cmp .ne (.lv 2) (.lst []))
@[reducible] noncomputable def rB : List MS := [.asgT [4, 5] (.meth (.lv 2) 25 []), .iff (.lv 4) [.asg 6 (.call (.gl 4) [(.sub (.lv 5) (.int 2))]), .asg 7 (.slc (.lv 3) (some (.bin .sub (.call (.gl 4) [(.lv 3)]) (.lv 6))) none false), .asg 3 (.slc (.lv 3) none (some (.bin .sub (.call (.gl 4) [(.lv 3)]) (.lv 6))) false), .ex (.meth (.lv 3) 31 [(.call (.gl 14) [(.sub (.lv 5) (.int 1)), (.lv 7)])]), .cnt] [], .asg 8 (.meth (.lv 0) 60 [(.lv 5)]), .iff (.cmp .ne (.sub (.lv 8) (.int 0)) (.str 0)) [.ex (.meth (.lv 3) 31 [(.lv 8)])] [.ex (.meth (.lv 2) 31 [(.tup [(.con (.bool true)), (.lv 8)])]), .for_ 9 (.slc (.sub (.lv 8) (.int 2)) none none true) [.ex (.meth (.lv 2) 31 [(.tup [(.con (.bool false)), (.lv 9)])])]]]
@[reducible] noncomputable def rst (f k : Int) (T D : List PV) : AS := ⟨[some (.loc 0), none, some (.loc 11), some (.loc 12), none, none, none, none, none, none, none, none], ES f k [.lst T, .lst D]⟩
theorem rst_norm {f k : Int} {a b c d e g h i j : Option MV} {T D : List PV} {σ₂ : List MO} : norm 11 [0, 2, 3] [] ⟨[some (.loc 0), a, some (.loc 11), some (.loc 12), b, c, d, e, g, h, i, j], ES f k (.lst T :: .lst D :: σ₂)⟩ = some (rst f k T D, []) := by kernel_rfl!
theorem rst_norm2 {f k : Int} {a b c d e g h i j : Option MV} {T D x1 x2 x3 : List PV} : norm 11 [0, 2, 3] [] ⟨[some (.loc 0), a, some (.loc 11), some (.loc 15), b, c, d, e, g, h, i, j], ES f k [.lst T, .lst x1, .lst x2, .lst x3, .lst D]⟩ = some (rst f k T D, []) := by kernel_rfl!
/-- the turns of a for that appends -/
theorem turns_push' {f : AS → (Fl → AS → Prop) → Prop} {chk : List MO → Prop} {i : Nat} {g : PV → PV} {F : Fl → AS → Prop} (ρ0 : Option MV → List (Option MV)) (σ0 : List PV → List MO) (hset : ∀ y x, (ρ0 y).set i x = ρ0 x)
    (hf : ∀ x T (G : Fl → AS → Prop), T.length ≤ lim → G .nxt ⟨ρ0 (some (.p x)), σ0 (T ++ [g x])⟩ → f ⟨ρ0 (some (.p x)), σ0 T⟩ G) (hchk : ∀ σ, chk σ) :
    ∀ (xs T : List PV) (y : Option MV), T.length + xs.length ≤ lim → (∀ y', F .nxt ⟨ρ0 y', σ0 (T ++ xs.map g)⟩) → vcTurns f chk i xs ⟨ρ0 y, σ0 T⟩ F
  | [], T, y, z1_, k => u_nil (by simpa using k y)
  | x :: xs, T, y, hl, k => by
    simp only [List.length_cons] at hl
    refine u_cons ?_
    rw [hset]
    refine hf x T _ (by walk_at "om") (tw_nxt ⟨hchk _, ?_⟩)
    refine turns_push' ρ0 σ0 hset hf hchk xs _ _ (by simp only [List.length_append, List.length_cons, List.length_nil]; omega) fun y' => ?_
    have := k y'
    rw [List.map_cons] at this
    rw [List.append_assoc]
    exact this
section
variable {n r m : Nat} {ns : List Int} {X : Prop} {f k : Int} {F : Fl → AS → Prop}
theorem run_ready (hn : 1 ≤ n) (hr : 4 * n ≤ r) {h : Nat} {l l' T D : List PV} (el : l'.length = l.length) (hl : T.length + D.length + l.length + 5 ≤ lim) (q : U (SpF ns n) r ns 11 rT rB [0, 2, 3] X F m (rst f k T (D ++ [.tup [.str 0, .str h, .tup l]]))) :
    U (SpF ns n) r ns 11 rT rB [0, 2, 3] X F (m + 1) (rst f k (T ++ [rdy true (.tup [.str 0, .str h, .tup l'])]) (D ++ l)) := by
  refine u_step ?_
  repeat (walk_at "go")
  refine if_t (by simp) ?_
  repeat (walk_at "go")
  refine cut_hi (d := D) (k := l) rfl (by walk_at "side") rfl (by rw [el]) ?_
  repeat (walk_at "go")
  refine cut_lo (d := D) (k := l) rfl (by walk_at "side") rfl (by rw [el]) ?_
  repeat (walk_at "go")
  refine c_fn_pl rfl (a54l hn hr (by walk_at "om") ?_)
  repeat (walk_at "go")
  exact u_next (m' := m) (by walk_at "om") rst_norm2 q
/-- settled gives y, and leaves the fuel f'; or there is a fault -/
noncomputable def SetAt (ns : List Int) (n r : Nat) (k f : Int) (x : PV) (X : Prop) (ok : (PV → Int → Prop) → Prop) : Prop := ∀ R : MV → List MO → List MO → Prop, ok (fun y f' => R (.p y) (ES f' k []) []) → SpF ns n r 361 [.loc 0, .p x] (ES f k []) R X
theorem run_one (hn : 1 ≤ n) (hr : 4 * n ≤ r) {x : PV} {ok : (PV → Int → Prop) → Prop} (mono : ∀ P Q : PV → Int → Prop, (∀ y f', P y f' → Q y f') → ok P → ok Q) (hs : SetAt ns n r k f x X ok) {T D : List PV} (hl : T.length + D.length + 5 ≤ lim)
    (q : ok fun y f' => (∃ h l, y = .tup (.str h :: l) ∧ (h == 0) = false ∧ U (SpF ns n) r ns 11 rT rB [0, 2, 3] X F m (rst f' k T (D ++ [y]))) ∨
      (∃ h l, y = .tup [.str 0, .str h, .tup l] ∧ T.length + l.length + 5 ≤ lim ∧ U (SpF ns n) r ns 11 rT rB [0, 2, 3] X F m (rst f' k (T ++ [rdy true y] ++ l.reverse.map (rdy false)) D))) :
    U (SpF ns n) r ns 11 rT rB [0, 2, 3] X F (m + 1) (rst f k (T ++ [rdy false x]) D) := by
  refine u_step ?_
  repeat (walk_at "go")
  refine if_t (by simp) ?_
  repeat (walk_at "go")
  refine c_fn es_hand (hs _ (mono _ _ (fun y f' hq => ?_) q))
  rw [es_back]
  rcases hq with ⟨h, l, e, eh, hq⟩ | ⟨h, l, e, hl', hq⟩
  · subst e
    repeat (walk_at "go")
    refine if_t (by rw [bne, eh]; rfl) ?_
    repeat (walk_at "go")
    exact u_next (m' := m) (by walk_at "om") rst_norm hq
  · subst e
    repeat (walk_at "go")
    refine s_for ?_
    repeat (walk_at "go")
    refine turns_push' (fun y => [some (.loc 0), none, some (.loc 11), some (.loc 12), some (mB false), some (.p x), none, none, some (.p (.tup [.str 0, .str h, .tup l])), y, none, none]) (fun T => ES f' k [.lst T, .lst D, .lst []]) (fun z_ z_ => rfl) (g := rdy false) (fun x T G hT hG => ?_) (fun z_ => trivial) _ _ _ ?_ fun y' => ?_
    · repeat (walk_at "go")
      exact hG
    · walk_at "side"
    · refine ts_nxt ?_
      repeat (walk_at "go")
      exact u_next (m' := m) (by walk_at "om") rst_norm hq
end
/-! the measure of a tree -/
noncomputable def mu : LT → Nat := fun y1_ => match y1_ with
  | .sym _ | .four | .quo _ | .word _ => 1
  | .call2 a b => mu a + mu b + 1
  | .call3 a b c => mu a + (mu b + mu c) + 1
  | .blk1 a => mu a + 1
  | .blk2 a b => mu a + mu b + 1
  | .same a => mu a + 1
  | .twice a => mu a + mu a + 1
  | .first a z1_ => mu a + 1
  | .other a => 1 + (mu a + 1) + 1
noncomputable def mus : List LT → Nat := fun y1_ => match y1_ with
  | [] => 0
  | t :: l => mu t + mus l
noncomputable def costs : List LT → Nat := fun y1_ => match y1_ with
  | [] => 0
  | t :: l => cost t + costs l
theorem mu_pos (t : LT) : 1 ≤ mu t := by cases t <;> exact Nat.succ_le_succ (Nat.zero_le _)
theorem mus_len : ∀ l : List LT, l.length ≤ mus l := fun y1_ => match y1_ with
  | [] => Nat.le_refl _
  | t :: l => by
    have := mus_len l
    have := mu_pos t
    simp only [mus, List.length_cons]
    omega
theorem mus_mem : ∀ {l : List LT} {t : LT}, t ∈ l → mu t ≤ mus l := @fun y1_ y2_ y3_ => match y1_, y2_, y3_ with
  | u :: l, t, h => by
    simp only [mus]
    rcases List.mem_cons.mp h with rfl | h
    · omega
    · have := mus_mem h
      omega
theorem hd_mu : ∀ (t : LT) {h : Nat} {l : List LT}, hdT t = .node h l → mus l + 1 ≤ mu t := fun y1_ y2_ y3_ y4_ => match y1_, y2_, y3_, y4_ with
  | .sym z1_, h, l, e => nomatch e
  | .four, h, l, e => nomatch e
  | .call2 a b, h, l, e => by cases e; exact Nat.le_refl _
  | .call3 a b c, h, l, e => by cases e; exact Nat.le_refl _
  | .blk1 a, h, l, e => by cases e; exact Nat.le_refl _
  | .blk2 a b, h, l, e => by cases e; exact Nat.le_refl _
  | .quo a, h, l, e => nomatch e
  | .same a, h, l, e => Nat.le_succ_of_le (hd_mu a (show hdT a = _ from e))
  | .twice a, h, l, e => by cases e; exact Nat.le_refl _
  | .first a z1_, h, l, e => Nat.le_succ_of_le (hd_mu a (show hdT a = _ from e))
  | .other a, h, l, e => by cases e; exact Nat.le_refl _
  | .word a, h, l, e => nomatch e
theorem al {P : LT → Prop} {a : LT} {l : List LT} (h : P a) (H : ∀ t ∈ l, P t) : ∀ t ∈ a :: l, P t := List.forall_mem_cons.mpr ⟨h, H⟩
theorem al0 {P : LT → Prop} : ∀ t ∈ ([] : List LT), P t := fun z_ h => nomatch h
theorem gs_mem {g : GT} : ∀ {l : List GT}, g ∈ l → szG g ≤ szGs l := @fun y1_ y2_ => match y1_, y2_ with
  | u :: l, h => by
    rcases List.mem_cons.mp h with rfl | h
    · exact Nat.le_add_right _ _
    · exact Nat.le_trans (gs_mem h) (Nat.le_add_left _ _)
theorem sz_kid {g : GT} {h : Nat} {l : List GT} (m : g ∈ l) : szG g ≤ szG (.node h l) := Nat.le_trans (gs_mem m) (Nat.le_add_left _ _)
theorem hd_sz : ∀ (t : LT) {h : Nat} {l : List LT}, hdT t = .node h l → ∀ u ∈ l, szT u ≤ szT t := fun y1_ y2_ y3_ y4_ => match y1_, y2_, y3_, y4_ with
  | .sym z1_, h, l, e => nomatch e
  | .four, h, l, e => nomatch e
  | .call2 a b, h, l, e => by cases e; exact al (sz_kid (.head _)) (al (sz_kid (.tail _ (.head _))) al0)
  | .call3 a b c, h, l, e => by cases e; exact al (sz_kid (.head _)) (al (sz_kid (.tail _ (.head _))) (al (sz_kid (.tail _ (.tail _ (.head _)))) al0))
  | .blk1 a, h, l, e => by cases e; exact al (sz_kid (.head _)) al0
  | .blk2 a b, h, l, e => by cases e; exact al (sz_kid (.head _)) (al (sz_kid (.tail _ (.head _))) al0)
  | .quo a, h, l, e => nomatch e
  | .same a, h, l, e => fun u hu => Nat.le_trans (hd_sz a (show hdT a = _ from e) u hu) (sz_kid (.tail _ (.head _)))
  | .twice a, h, l, e => by cases e; exact al (sz_kid (.tail _ (.head _))) (al (sz_kid (.tail _ (.head _))) al0)
  | .first a z1_, h, l, e => fun u hu => Nat.le_trans (hd_sz a (show hdT a = _ from e) u hu) (sz_kid (.tail _ (.head _)))
  | .other a, h, l, e => by cases e; exact al (Nat.le_add_right _ _) (al (Nat.le_refl _) al0)
  | .word a, h, l, e => nomatch e
theorem hd_leaf : ∀ (t : LT) {v : PV}, hdT t = .leaf v → eT t = v ∧ cost t = cost0 t := fun y1_ y2_ y3_ => match y1_, y2_, y3_ with
  | .sym z1_, v, e => by cases e; exact ⟨rfl, rfl⟩
  | .four, v, e => by cases e; exact ⟨rfl, rfl⟩
  | .call2 a b, v, e => nomatch e
  | .call3 a b c, v, e => nomatch e
  | .blk1 a, v, e => nomatch e
  | .blk2 a b, v, e => nomatch e
  | .quo a, v, e => by cases e; exact ⟨rfl, rfl⟩
  | .same a, v, e => have h := hd_leaf a (show hdT a = _ from e); ⟨h.1, congrArg (1 + ·) h.2⟩
  | .twice a, v, e => nomatch e
  | .first a z1_, v, e => have h := hd_leaf a (show hdT a = _ from e); ⟨h.1, congrArg (1 + ·) h.2⟩
  | .other a, v, e => nomatch e
  | .word a, v, e => by cases e; exact ⟨rfl, rfl⟩
theorem hd_node : ∀ (t : LT) {h : Nat} {l : List LT}, hdT t = .node h l → eT t = .tup [.str 0, .str h, .tup (l.map eT)] ∧ cost t = cost0 t + costs l := fun y1_ y2_ y3_ y4_ => match y1_, y2_, y3_, y4_ with
  | .sym z1_, h, l, e => nomatch e
  | .four, h, l, e => nomatch e
  | .call2 a b, h, l, e => by cases e; exact ⟨rfl, (Nat.zero_add _).symm⟩
  | .call3 a b c, h, l, e => by cases e; exact ⟨rfl, (Nat.zero_add _).symm⟩
  | .blk1 a, h, l, e => by cases e; exact ⟨rfl, (Nat.zero_add _).symm⟩
  | .blk2 a b, h, l, e => by cases e; exact ⟨rfl, (Nat.zero_add _).symm⟩
  | .quo a, h, l, e => nomatch e
  | .same a, h, l, e => have g := hd_node a (show hdT a = _ from e); ⟨g.1, (congrArg (1 + ·) g.2).trans (Nat.add_assoc 1 _ _).symm⟩
  | .twice a, h, l, e => by cases e; exact ⟨rfl, Nat.add_assoc 1 _ _⟩
  | .first a z1_, h, l, e => have g := hd_node a (show hdT a = _ from e); ⟨g.1, (congrArg (1 + ·) g.2).trans (Nat.add_assoc 1 _ _).symm⟩
  | .other a, h, l, e => by cases e; exact ⟨rfl, show 2 + cost a = 1 + (0 + (1 + cost a)) by rw [Nat.zero_add, ← Nat.add_assoc]⟩
  | .word a, h, l, e => nomatch e
section
variable {n r : Nat} {ns : List Int} {X : Prop} {k : Int} {F : Fl → AS → Prop}
noncomputable def RunAt (ns : List Int) (n r : Nat) (k : Int) (X : Prop) (F : Fl → AS → Prop) (t : LT) : Prop := ∃ s, ∀ (T D : List PV) (f : Int) m, 0 ≤ f → T.length + D.length + 2 * mu t + 20 ≤ lim →
  ((cost t : Int) ≤ f → U (SpF ns n) r ns 11 rT rB [0, 2, 3] X F m (rst (f - cost t) k T (D ++ [eT t]))) → (f < cost t → X) → U (SpF ns n) r ns 11 rT rB [0, 2, 3] X F (m + s) (rst f k (T ++ [rdy false (enc t)]) D)
theorem run_list : ∀ (l : List LT), (∀ t ∈ l, RunAt ns n r k X F t) → ∃ s, ∀ (T D : List PV) (f : Int) m, 0 ≤ f → T.length + D.length + 2 * mus l + 20 ≤ lim →
    ((costs l : Int) ≤ f → U (SpF ns n) r ns 11 rT rB [0, 2, 3] X F m (rst (f - costs l) k T (D ++ l.map eT))) → (f < costs l → X) → U (SpF ns n) r ns 11 rT rB [0, 2, 3] X F (m + s) (rst f k (T ++ (l.map enc).reverse.map (rdy false)) D)
  | [], z1_ => ⟨0, fun T D f m hf hl q hX => by simpa [costs] using q (by simpa [costs] using hf)⟩
  | t :: l, H => by
    obtain ⟨s1, h1⟩ := H t (.head _)
    obtain ⟨s2, h2⟩ := run_list l fun u hu => H u (.tail _ hu)
    refine ⟨s2 + s1, fun T D f m hf hl q hX => ?_⟩
    simp only [mus, costs] at hl q hX
    have := mus_len l
    have := mu_pos t
    simp only [List.map_cons, List.reverse_cons, List.map_append, List.map_nil] at q ⊢
    rw [← List.append_assoc, ← Nat.add_assoc]
    refine h1 _ D f (m + s2) hf (by simp only [List.length_append, List.length_map, List.length_reverse]; omega) (fun hc => ?_) fun hc => hX (by walk_at "om")
    refine h2 T _ _ m (by walk_at "om") (by simp only [List.length_append, List.length_cons, List.length_nil]; omega) (fun hc2 => ?_) fun hc2 => hX (by walk_at "om")
    have q := q (by walk_at "om")
    rw [show f - (cost t : Int) - (costs l : Int) = f - ((cost t + costs l : Nat) : Int) by omega, List.append_assoc]
    exact q
theorem run_tree (hn : 30 ≤ n) (hr : 4 * n ≤ r) : ∀ (b : Nat) (t : LT), mu t ≤ b → 2 * szT t + 30 ≤ lim → RunAt ns n r k X F t := fun y1_ y2_ y3_ y4_ => match y1_, y2_, y3_, y4_ with
  | 0, t, hb, z1_ => by have := mu_pos t; omega
  | b + 1, t, hb, hz => by
    rcases hdT_set t with ⟨v, h, l, e, ev, eh⟩ | ⟨h, l, e, eh⟩
    · obtain ⟨h1, h2⟩ := hd_leaf t e
      refine ⟨1, fun T D f m hf hl q hX => ?_⟩
      refine run_one (ok := fun P => ((cost0 t : Int) ≤ f → P (encH (hdT t)) (f - cost0 t)) ∧ (f < cost0 t → X)) (by walk_at "om") hr (fun P Q hPQ h => ⟨fun hc => hPQ _ _ (h.1 hc), h.2⟩) (fun R hok => a361 (by walk_at "om") hr t hz hf hok.1 hok.2) (by walk_at "om") ⟨fun hc => ?_, fun hc => hX (by walk_at "om")⟩
      refine .inl ⟨h, l, by rw [e]; exact ev, eh, ?_⟩
      have q := q (by walk_at "om")
      rw [h1, h2] at q
      rw [e]
      exact q
    · obtain ⟨h1, h2⟩ := hd_node t e
      have hm := hd_mu t e
      obtain ⟨s, hs⟩ := run_list l fun u hu => run_tree hn hr b u (by have := mus_mem hu; omega) (by have := hd_sz t e u hu; omega)
      have := mus_len l
      refine ⟨1 + s + 1, fun T D f m hf hl q hX => ?_⟩
      rw [show m + (1 + s + 1) = (m + 1) + s + 1 by omega]
      refine run_one (ok := fun P => ((cost0 t : Int) ≤ f → P (encH (hdT t)) (f - cost0 t)) ∧ (f < cost0 t → X)) (by walk_at "om") hr (fun P Q hPQ h => ⟨fun hc => hPQ _ _ (h.1 hc), h.2⟩) (fun R hok => a361 (by walk_at "om") hr t hz hf hok.1 hok.2) (by walk_at "om") ⟨fun hc => ?_, fun hc => hX (by walk_at "om")⟩
      rw [e]
      simp only [encH]
      refine .inr ⟨h, l.map enc, rfl, by rw [List.length_map]; omega, ?_⟩
      refine hs _ D _ (m + 1) (by walk_at "om") (by simp only [List.length_append, List.length_cons, List.length_nil]; omega) (fun hc2 => ?_) fun hc2 => hX (by walk_at "om")
      have q := q (by walk_at "om")
      rw [h1, h2] at q
      rw [show f - (cost0 t : Int) - (costs l : Int) = f - ((cost0 t + costs l : Nat) : Int) by omega]
      exact run_ready (by walk_at "om") hr (by rw [List.length_map, List.length_map]) (by rw [List.length_map]; omega) q
end
/-- a tree that runs to y at a cost; or to a fault -/
noncomputable def RunX (ns : List Int) (n r : Nat) (k f : Int) (X : Prop) (F : Fl → AS → Prop) (x : PV) (ok : (PV → Int → Prop) → Prop) : Prop := ∃ s, (ok fun y f' => U (SpF ns n) r ns 11 rT rB [0, 2, 3] X F 1 (rst f' k [] [y])) → U (SpF ns n) r ns 11 rT rB [0, 2, 3] X F s (rst f k [rdy false x] [])
theorem a368 {n r : Nat} {ns : List Int} {X : Prop} {R : MV → List MO → List MO → Prop} {f k : Int} (hn : 1 ≤ n) (hr : 4 * n ≤ r) {x : PV} {ok : (PV → Int → Prop) → Prop} (mono : ∀ P Q : PV → Int → Prop, (∀ y f', P y f' → Q y f') → ok P → ok Q) (hx : ∀ m r F, n = m + 1 → 4 * m ≤ r → RunX ns m r k f X F x ok)
    (q : ok fun y f' => R (.p y) (ES f' k []) []) : SpF ns n r 368 [.loc 0, .p x] (ES f k []) R X := by
  refine sp_def rfl rfl rfl (by walk_at "om") hr rfl rfl rfl fun m r hm hr' => ?_
  repeat (walk_at "go")
  obtain ⟨s, hs⟩ := hx m r _ hm (by walk_at "om")
  refine s_whl [0, 2, 3] s (q := (rst f k [rdy false x] [], [])) (by kernel_rfl!) (hs (mono _ _ (fun y f' hq => ?_) q))
  refine u_step ?_
  repeat (walk_at "go")
  exact hbES hq
/-- the fresh macros and a supply -/
@[reducible] noncomputable def XS (k : Int) : List MO := [.dct [(62, .loc 2), (63, .loc 3), (64, .loc 4), (65, .loc 5), (66, .loc 6), (67, .loc 7)], .inst 162 8, .fn 0, .fn 1, .fn 2, .fn 3, .fn 4, .fn 5, .dct [(30, mI k)]]
@[reducible] noncomputable def NS (k : Int) (es : List (Nat × MV)) : List MO := [.inst 371 3, .dct [(62, .loc 4), (63, .loc 5), (64, .loc 6), (65, .loc 7), (66, .loc 8), (67, .loc 9)], .inst 162 10, .dct es, .fn 0, .fn 1, .fn 2, .fn 3, .fn 4, .fn 5, .dct [(30, mI k)]]
theorem a347 {n r : Nat} {ns : List Int} {X : Prop} {R : MV → List MO → List MO → Prop} {f k : Int} (hn : 1 ≤ n) (hr : 4 * n ≤ r) (q : R mN (NS k [(54, .loc 1), (32, .loc 2), (55, mI f)]) []) : SpF ns n r 347 [.loc 0, .loc 1, .loc 2, .p (.int f)] (NS k []) R X := by
  refine sp_def rfl rfl rfl (by walk_at "om") hr rfl rfl rfl fun m r hm hr' => ?_
  repeat (walk_at "go")
  exact hb_p (σ₁ := NS k [(54, .loc 1), (32, .loc 2), (55, mI f)]) (by kernel_rfl!) q
theorem a383 {n r : Nat} {ns : List Int} {X : Prop} {R : MV → List MO → List MO → Prop} {f k : Int} (hn : 2 ≤ n) (hr : 4 * n ≤ r) {x : PV} {ok : (PV → Int → Prop) → Prop} (mono : ∀ P Q : PV → Int → Prop, (∀ y f', P y f' → Q y f') → ok P → ok Q) (hx : ∀ m r F, n = m + 2 → 4 * m ≤ r → RunX ns m r k f X F x ok)
    (q : ok fun y z_ => R (.p y) (XS k) []) : SpF ns n r 383 [.p x, .loc 0, .loc 1, .p (.int f)] (XS k) R X := by
  refine sp_def rfl rfl rfl (by walk_at "om") hr rfl rfl rfl fun m r hm hr' => ?_
  repeat (walk_at "go")
  refine c_cls rfl (by walk_at "om") ?_
  refine c_fn (sel := [10, 0, 1, 9, 2, 3, 4, 5, 6, 7, 8]) (ws := [.loc 0, .loc 1, .loc 2, .p (.int f)]) (σp := NS k []) (by kernel_rfl!) (a347 (by walk_at "om") (by walk_at "om") ?_)
  refine ⟨rfl, ?_⟩
  repeat (walk_at "go")
  refine c_fn (sel := [10, 9, 0, 1, 2, 3, 4, 5, 6, 7, 8]) (ws := [.loc 0, .p x]) (σp := ES f k []) (by kernel_rfl!) (a368 (by walk_at "om") (by walk_at "om") mono (fun m' r' F e hr'' => hx m' r' F (by walk_at "om") hr'') (mono _ _ (fun y f' hq => ?_) q))
  repeat (walk_at "go")
  exact hb_p (σ₁ := XS k) (by kernel_rfl!) hq
/-! ## the law's own functions -/
noncomputable def hgt : LT → Nat := fun y1_ => match y1_ with
  | .sym _ | .four => 0
  | .call2 a b => max (hgt a) (hgt b) + 1
  | .call3 a b c => max (hgt a) (max (hgt b) (hgt c)) + 1
  | .blk1 a => hgt a + 1
  | .blk2 a b => max (hgt a) (hgt b) + 1
  | .quo a => hgt a + 1
  | .same a => hgt a + 1
  | .twice a => hgt a + 1
  | .first a b => max (hgt a) (hgt b) + 1
  | .other a => hgt a + 1
  | .word a => hgt a + 1
section
variable {n r : Nat} {ns : List Int} {X : Prop} {R : MV → List MO → List MO → Prop}
set_option maxHeartbeats 4000000 in
theorem a418 : ∀ (h : Nat) {n r : Nat} {X : Prop} {R : MV → List MO → List MO → Prop} {hi x y : Int}, hi = h → h + 3 ≤ n → 4 * n ≤ r → 0 ≤ x → (0 ≤ y ∧ y < 65497) →
    (∀ t x' y', hgt t ≤ h → 0 ≤ x' → (0 ≤ y' ∧ y' < 65497) → R (.p (enc t)) [bagO x' y'] []) → SpF ns n r 418 [.loc 0, .p (.int hi)] [bagO x y] R X := by
  intro h
  induction h with
  | zero =>
    intro n r X R hi x y eh hn hr hx hy k
    refine sp_def rfl rfl rfl (by walk_at "om") hr rfl rfl rfl fun m r hm hr' => ?_
    repeat (walk_at "go")
    refine if_f (decide_eq_false (by walk_at "om")) ?_
    repeat (walk_at "go")
    refine c_fn_lp rfl (a397 (m := 2) (by walk_at "om") (by walk_at "om") (by decide) hx hy fun w x1 y1 hw hx1 hy1 => ?_)
    have := lt2 hw
    rcases this with rfl | rfl
    · repeat (walk_at "go")
      exact hb1 (k (.sym 70) x1 y1 (Nat.zero_le _) hx1 hy1)
    · repeat (walk_at "go")
      exact hb1 (k .four x1 y1 (Nat.zero_le _) hx1 hy1)
  | succ h ih =>
    intro n r X R hi x y eh hn hr hx hy k
    have e1 : hi - 1 = h := by omega
    have e0 : hi ≠ 0 := by omega
    refine sp_def rfl rfl rfl (by walk_at "om") hr rfl rfl rfl fun m r hm hr' => ?_
    have e2 : h + 3 ≤ m := by walk_at "om"
    have e3 := r0 hr'
    repeat (walk_at "go")
    refine if_t (decide_eq_true (by walk_at "om")) ?_
    repeat (walk_at "go")
    refine c_fn_lp rfl (a397 (m := 9) (by walk_at "om") (by walk_at "om") (by decide) hx hy fun w x1 y1 hw hx1 hy1 => ?_)
    by_cases hw5 : w < 5
    · have := lt5 hw5
      rcases this with (((rfl | rfl) | rfl) | rfl) | rfl
      · repeat (walk_at "go")
        exact hb1 (k (.sym 70) x1 y1 (Nat.zero_le _) hx1 hy1)
      · repeat (walk_at "go")
        exact hb1 (k .four x1 y1 (Nat.zero_le _) hx1 hy1)
      · repeat (walk_at "go")
        refine c_fn_lp rfl (ih e1 e2 e3 hx1 hy1 fun t2 x2 y2 ht2 hx2 hy2 => ?_)
        repeat (walk_at "go")
        refine c_fn_lp rfl (ih e1 e2 e3 hx2 hy2 fun t3 x3 y3 ht3 hx3 hy3 => ?_)
        repeat (walk_at "go")
        exact hb1 (k (.call3 (.sym 72) t2 t3) x3 y3 (Nat.succ_le_succ (Nat.max_le.mpr ⟨Nat.zero_le _, Nat.max_le.mpr ⟨ht2, ht3⟩⟩)) hx3 hy3)
      · repeat (walk_at "go")
        refine c_fn_lp rfl (ih e1 e2 e3 hx1 hy1 fun t2 x2 y2 ht2 hx2 hy2 => ?_)
        repeat (walk_at "go")
        exact hb1 (k (.quo t2) x2 y2 (Nat.succ_le_succ ht2) hx2 hy2)
      · repeat (walk_at "go")
        refine c_fn_lp rfl (ih e1 e2 e3 hx1 hy1 fun t2 x2 y2 ht2 hx2 hy2 => ?_)
        repeat (walk_at "go")
        exact hb1 (k (.blk1 t2) x2 y2 (Nat.succ_le_succ ht2) hx2 hy2)
    · repeat (walk_at "go")
      refine if_f (decide_eq_false (by walk_at "om")) ?_
      repeat (walk_at "go")
      refine if_f (beq_false_of_ne (by walk_at "om")) ?_
      repeat (walk_at "go")
      refine if_f (beq_false_of_ne (by walk_at "om")) ?_
      repeat (walk_at "go")
      refine if_f (beq_false_of_ne (by walk_at "om")) ?_
      repeat (walk_at "go")
      refine c_fn_lp rfl (a397 (m := 5) (by walk_at "om") (by walk_at "om") (by decide) hx1 hy1 fun w x1 y1 hw hx1 hy1 => ?_)
      have := lt5 hw
      rcases this with (((rfl | rfl) | rfl) | rfl) | rfl
      · repeat (walk_at "go")
        refine c_fn_lp rfl (ih e1 e2 e3 hx1 hy1 fun t2 x2 y2 ht2 hx2 hy2 => ?_)
        repeat (walk_at "go")
        refine on_bin (a := (.p (.tup [.tup [.str 2, .str 62], enc t2]), _)) rfl ?_
        repeat (walk_at "go")
        exact hb1 (k (.same t2) x2 y2 (Nat.succ_le_succ ht2) hx2 hy2)
      · repeat (walk_at "go")
        refine c_fn_lp rfl (ih e1 e2 e3 hx1 hy1 fun t2 x2 y2 ht2 hx2 hy2 => ?_)
        repeat (walk_at "go")
        refine on_bin (a := (.p (.tup [.tup [.str 2, .str 63], enc t2]), _)) rfl ?_
        repeat (walk_at "go")
        exact hb1 (k (.twice t2) x2 y2 (Nat.succ_le_succ ht2) hx2 hy2)
      · repeat (walk_at "go")
        refine c_fn_lp rfl (ih e1 e2 e3 hx1 hy1 fun t2 x2 y2 ht2 hx2 hy2 => ?_)
        repeat (walk_at "go")
        refine c_fn_lp rfl (ih e1 e2 e3 hx2 hy2 fun t3 x3 y3 ht3 hx3 hy3 => ?_)
        repeat (walk_at "go")
        refine on_bin (a := (.p (.tup [.tup [.str 2, .str 64], enc t2, enc t3]), _)) rfl ?_
        repeat (walk_at "go")
        exact hb1 (k (.first t2 t3) x3 y3 (Nat.succ_le_succ (Nat.max_le.mpr ⟨ht2, ht3⟩)) hx3 hy3)
      · repeat (walk_at "go")
        refine c_fn_lp rfl (ih e1 e2 e3 hx1 hy1 fun t2 x2 y2 ht2 hx2 hy2 => ?_)
        repeat (walk_at "go")
        refine on_bin (a := (.p (.tup [.tup [.str 2, .str 65], enc t2]), _)) rfl ?_
        repeat (walk_at "go")
        exact hb1 (k (.other t2) x2 y2 (Nat.succ_le_succ ht2) hx2 hy2)
      · repeat (walk_at "go")
        refine c_fn_lp rfl (ih e1 e2 e3 hx1 hy1 fun t2 x2 y2 ht2 hx2 hy2 => ?_)
        repeat (walk_at "go")
        refine on_bin (a := (.p (.tup [.tup [.str 2, .str 66], enc t2]), _)) rfl ?_
        repeat (walk_at "go")
        exact hb1 (k (.word t2) x2 y2 (Nat.succ_le_succ ht2) hx2 hy2)
theorem comp_nil {f : AS → (MV → AS → Prop) → Prop} {t : AS → (Bool → AS → Prop) → Prop} {chk : List MO → Prop} {tg : List Nat} {a : Nat} {c : AS} {Q : AS → Prop} (h : Q c) : vcComp f t chk tg a [] c Q := h
theorem comp_cons {f : AS → (MV → AS → Prop) → Prop} {t : AS → (Bool → AS → Prop) → Prop} {chk : List MO → Prop} {i a : Nat} {x : PV} {xs : List PV} {ρ : List (Option MV)} {σ : List MO} {Q : AS → Prop}
    (h : t ⟨ρ.set i (some (.p x)), σ⟩ fun b c₁ => if b then f c₁ fun v c₂ => match v, c₂.σ[a]? with
        | .p y, some (.lst ys) => ys.length ≤ lim ∧ chk (c₂.σ.set a (.lst (ys ++ [y]))) ∧ vcComp f t chk [i] a xs ⟨c₂.ρ, c₂.σ.set a (.lst (ys ++ [y]))⟩ Q
        | z1_, z2_ => False
      else chk c₁.σ ∧ vcComp f t chk [i] a xs c₁ Q) : vcComp f t chk [i] a (x :: xs) ⟨ρ, σ⟩ Q := h
/-- what 430 does with a tree -/
noncomputable def Tl (ns : List Int) (t : LT) : Prop := ∀ {n r : Nat} {X : Prop} {R : MV → List MO → List MO → Prop} {met : List PV}, hgt t + 3 ≤ n → 4 * n ≤ r → met.length + cost t + 10 ≤ lim →
    (∀ ms : List PV, ms.length = cost t → R (.p (eT t)) [.lst (met ++ ms)] []) → SpF ns n r 430 [.p (enc t), .loc 0] [.lst met] R X
theorem tl_sum {a b c : Nat} (h : a + (b + c) + 10 ≤ lim) : a + b + 10 ≤ lim ∧ (a + b) + c + 10 ≤ lim :=
  have h : a + b + c + 10 ≤ lim := by rwa [Nat.add_assoc a b c]
  ⟨Nat.le_trans (Nat.add_le_add_right (Nat.le_add_right _ _) _) h, h⟩
theorem nm3 {h m n : Nat} (e : n = m + 1) (hn : h + 1 + 3 ≤ n) : h + 3 ≤ m := by omega
theorem kids {m : Nat} {chk : List MO → Prop} (hc : ∀ σ, chk σ) (hr : 4 * m ≤ r) {p0 p2 : Option MV} : ∀ (ts : List LT) (p1 : Option MV) {met acc : List PV} {Q : AS → Prop}, (∀ t ∈ ts, Tl ns t ∧ hgt t + 3 ≤ m) → met.length + costs ts + 10 ≤ lim → acc.length + ts.length ≤ 9 →
    (∀ ρ ms, ms.length = costs ts → Q ⟨ρ, [.lst (met ++ ms), .lst (acc ++ ts.map eT)]⟩) →
    vcComp (vcE (SpF ns m) r ns False ((ME.gl 34).call [ME.lv 1, ME.lv 3])) (vcC (SpF ns m) r ns False none) chk [1] 1 (ts.map enc) ⟨[p0, p1, p2, some (.loc 0)], [.lst met, .lst acc]⟩ Q
  | [], p1, met, acc, Q, z1_, z2_, z3_, k => by
    have k := k [p0, p1, p2, some (.loc 0)] [] rfl
    rw [List.append_nil] at k
    exact comp_nil (by simpa only [List.map_nil, List.append_nil] using k)
  | t :: ts, p1, met, acc, Q, ht, hl, ha, k => by
    have ⟨l1, l2⟩ := tl_sum hl
    have ⟨hT, h3⟩ := ht t (.head _)
    refine comp_cons (k_none ?_)
    repeat (walk_at "go")
    refine c_fn_pl rfl (hT h3 hr l1 fun ms hm => ?_)
    refine ⟨Nat.le_trans (Nat.le_add_right _ _) (Nat.le_trans ha (by decide)), hc _, ?_⟩
    refine jmp (P := vcComp (vcE (SpF ns m) r ns False ((ME.gl 34).call [ME.lv 1, ME.lv 3])) (vcC (SpF ns m) r ns False none) chk [1] 1 (ts.map enc) ⟨[p0, some (.p (enc t)), p2, some (.loc 0)], [.lst (met ++ ms), .lst (acc ++ [eT t])]⟩ Q) _ rfl (by kernel_rfl) ?_
    refine kids hc hr ts _ (fun u hu => ht u (.tail _ hu)) (by rw [List.length_append, hm]; exact l2) (by rw [List.length_append]; simp only [List.length_cons, List.length_nil] at ha ⊢; omega) fun ρ ns' hn => ?_
    have k := k ρ (ms ++ ns') (by rw [List.length_append, hm, hn]; rfl)
    simpa only [List.append_assoc, List.map_cons, List.cons_append, List.nil_append] using k
theorem a430n {n r : Nat} {met : List PV} {ts : List LT} {s h : Nat} (hs : s = 51 ∨ s = 68) (ht : ∀ t ∈ ts, Tl ns t ∧ hgt t ≤ h) (h3 : ts.length ≤ 3) (hn : h + 1 + 3 ≤ n) (hr : 4 * n ≤ r) (hl : met.length + costs ts + 10 ≤ lim)
    (k : ∀ ms : List PV, ms.length = costs ts → R (.p (.tup [.str 0, .str s, .tup (ts.map eT)])) [.lst (met ++ ms)] []) : SpF ns n r 430 [.p (.tup [.str 0, .str s, .tup (ts.map enc)]), .loc 0] [.lst met] R X := by
  have h1 : 1 ≤ n := Nat.le_trans (Nat.le_add_left 1 (h + 3)) hn
  rcases hs with rfl | rfl
  all_goals
    refine sp_def rfl rfl rfl h1 hr rfl rfl rfl fun m r hm hr' => ?_
    repeat (walk_at "go")
    refine e_comp ?_
    repeat (walk_at "go")
    refine kids (fun z_ => trivial) (r0 hr') ts _ (fun t h => ⟨(ht t h).1, Nat.le_trans (Nat.add_le_add_right (ht t h).2 3) (nm3 hm hn)⟩) hl (Nat.le_trans (Nat.add_le_add_left h3 _) (by decide)) fun ρ ms hm => ?_
    repeat (walk_at "go")
    exact hb1 (k ms hm)
set_option maxHeartbeats 4000000 in
theorem a430 (t : LT) : Tl ns t := by
  induction t with
  | sym a =>
    intro n r X R met hn hr hl k
    have k := k [] rfl
    rw [List.append_nil] at k
    show SpF ns n r 430 [.p (.tup [.str 2, .str a]), .loc 0] [.lst met] R X
    refine sp_def rfl rfl rfl (by walk_at "om") hr rfl rfl rfl fun m r hm hr' => ?_
    repeat (walk_at "go")
    exact hb1 k
  | four =>
    intro n r X R met hn hr hl k
    have k := k [] rfl
    rw [List.append_nil] at k
    show SpF ns n r 430 [.p (.tup [.str 71, .int 4]), .loc 0] [.lst met] R X
    refine sp_def rfl rfl rfl (by walk_at "om") hr rfl rfl rfl fun m r hm hr' => ?_
    repeat (walk_at "go")
    exact hb1 k
  | call2 a b iha ihb => exact fun hn hr hl k => a430n (ts := [a, b]) (.inl rfl) (al ⟨iha, Nat.le_max_left _ _⟩ (al ⟨ihb, Nat.le_max_right _ _⟩ al0)) (Nat.le_of_ble_eq_true rfl) hn hr hl k
  | call3 a b c iha ihb ihc => exact fun hn hr hl k => a430n (ts := [a, b, c]) (.inl rfl) (al ⟨iha, Nat.le_max_left _ _⟩ (al ⟨ihb, Nat.le_trans (Nat.le_max_left _ _) (Nat.le_max_right _ _)⟩ (al ⟨ihc, Nat.le_trans (Nat.le_max_right _ _) (Nat.le_max_right _ _)⟩ al0))) (Nat.le_of_ble_eq_true rfl) hn hr hl k
  | blk1 a iha => exact fun hn hr hl k => a430n (ts := [a]) (.inr rfl) (al ⟨iha, Nat.le_refl _⟩ al0) (Nat.le_of_ble_eq_true rfl) hn hr hl k
  | blk2 a b iha ihb => exact fun hn hr hl k => a430n (ts := [a, b]) (.inr rfl) (al ⟨iha, Nat.le_max_left _ _⟩ (al ⟨ihb, Nat.le_max_right _ _⟩ al0)) (Nat.le_of_ble_eq_true rfl) hn hr hl k
  | quo a z1_ =>
    intro n r X R met hn hr hl k
    show SpF ns n r 430 [.p (.tup [.str 0, .str 13, .tup [enc a]]), .loc 0] [.lst met] R X
    replace hn : hgt a + 1 + 3 ≤ n := hn
    refine sp_def rfl rfl rfl (by walk_at "om") hr rfl rfl rfl fun m r hm hr' => ?_
    have k := k [] rfl
    rw [List.append_nil] at k
    replace k : R (.p (constP (kG (toG a)) (encG (toG a)))) [.lst met] [] := k
    unfold enc
    obtain ⟨l, el⟩ := encG_kG (toG a)
    rw [el] at k ⊢
    repeat (walk_at "go")
    refine c_fn0 rfl fun f => a425 (by walk_at "om") (by walk_at "om") ?_
    repeat (walk_at "go")
    exact hb1 k
  | same a iha =>
    intro n r X R met hn hr hl k
    show SpF ns n r 430 [.p (.tup [.str 0, .str 41, .tup [.tup [.str 2, .str 62], enc a]]), .loc 0] [.lst met] R X
    replace hn : hgt a + 1 + 3 ≤ n := hn
    have hl := (tl_sum hl).2
    refine sp_def rfl rfl rfl (by walk_at "om") hr rfl rfl rfl fun m r hm hr' => ?_
    repeat (walk_at "go")
    refine c_fn_pl rfl (iha (nm3 hm hn) (by walk_at "om") (by rw [List.length_append]; exact hl) fun ma ha => ?_)
    repeat (walk_at "go")
    refine hb1 ?_
    have k := k (.str 62 :: ma) ((congrArg (· + 1) ha).trans (Nat.add_comm _ _))
    rw [List.append_assoc]
    exact k
  | twice a iha =>
    intro n r X R met hn hr hl k
    show SpF ns n r 430 [.p (.tup [.str 0, .str 41, .tup [.tup [.str 2, .str 63], enc a]]), .loc 0] [.lst met] R X
    replace hn : hgt a + 1 + 3 ≤ n := hn
    have h0 := tl_sum hl
    have h1 := tl_sum h0.1
    refine sp_def rfl rfl rfl (by walk_at "om") hr rfl rfl rfl fun m r hm hr' => ?_
    repeat (walk_at "go")
    refine c_fn_pl rfl (iha (nm3 hm hn) (by walk_at "om") (by rw [List.length_append]; exact h1.2) fun ma ha => ?_)
    repeat (walk_at "go")
    refine c_fn_pl rfl (iha (nm3 hm hn) (by walk_at "om") (by rw [List.length_append, List.length_append, ha, Nat.add_assoc met.length]; exact h0.2) fun mb hb => ?_)
    repeat (walk_at "go")
    refine hb1 ?_
    have k := k ([.str 63] ++ ma ++ mb) (by rw [List.length_append, List.length_append, ha, hb]; rfl)
    rw [List.append_assoc, List.append_assoc]
    exact k
  | first a b iha z1_ =>
    intro n r X R met hn hr hl k
    show SpF ns n r 430 [.p (.tup [.str 0, .str 41, .tup [.tup [.str 2, .str 64], enc a, enc b]]), .loc 0] [.lst met] R X
    have hn := Nat.le_trans (Nat.add_le_add_right (Nat.succ_le_succ (Nat.le_max_left (hgt a) (hgt b))) 3) hn
    have hl := (tl_sum hl).2
    refine sp_def rfl rfl rfl (by walk_at "om") hr rfl rfl rfl fun m r hm hr' => ?_
    repeat (walk_at "go")
    refine c_fn_pl rfl (iha (nm3 hm hn) (by walk_at "om") (by rw [List.length_append]; exact hl) fun ma ha => ?_)
    repeat (walk_at "go")
    refine hb1 ?_
    have k := k (.str 64 :: ma) ((congrArg (· + 1) ha).trans (Nat.add_comm _ _))
    rw [List.append_assoc]
    exact k
  | other a iha =>
    intro n r X R met hn hr hl k
    show SpF ns n r 430 [.p (.tup [.str 0, .str 41, .tup [.tup [.str 2, .str 65], enc a]]), .loc 0] [.lst met] R X
    replace hn : hgt a + 1 + 3 ≤ n := hn
    have hl := (tl_sum hl).2
    refine sp_def rfl rfl rfl (by walk_at "om") hr rfl rfl rfl fun m r hm hr' => ?_
    repeat (walk_at "go")
    refine c_fn_pl rfl (iha (nm3 hm hn) (by walk_at "om") (by rw [List.length_append, List.length_append]; exact hl) fun ma ha => ?_)
    repeat (walk_at "go")
    refine hb1 ?_
    have k := k (.str 65 :: .str 62 :: ma) ((congrArg (· + 2) ha).trans (Nat.add_comm _ _))
    rw [List.append_assoc, List.append_assoc]
    exact k
  | word a z1_ =>
    intro n r X R met hn hr hl k
    show SpF ns n r 430 [.p (.tup [.str 0, .str 41, .tup [.tup [.str 2, .str 66], enc a]]), .loc 0] [.lst met] R X
    replace hn : hgt a + 1 + 3 ≤ n := hn
    refine sp_def rfl rfl rfl (by walk_at "om") hr rfl rfl rfl fun m r hm hr' => ?_
    have k := k [.str 66] rfl
    replace k : R (.p (constP (kG (toG a)) (encG (toG a)))) [.lst (met ++ [.str 66])] [] := k
    unfold enc
    obtain ⟨l, el⟩ := encG_kG (toG a)
    rw [el] at k ⊢
    repeat (walk_at "go")
    refine c_fn0 rfl fun f => a425 (by walk_at "om") (by walk_at "om") ?_
    repeat (walk_at "go")
    exact hb1 k
end
section
theorem symC {ns : List Int} {n r : Nat} {X : Prop} {R : MV → List MO → List MO → Prop} {a : Nat} (hn : 1 ≤ n) (hr : 4 * n ≤ r) (k : R (mB true) [] []) : SpF ns n r 435 [.p (.tup [.str 2, .str a])] [] R X := by
  refine sp_def rfl rfl rfl (by walk_at "om") hr rfl rfl rfl fun m r hm hr' => ?_
  repeat (walk_at "go")
  exact hb0 k
/-- 435 is content with it -/
noncomputable def Cl (ns : List Int) (h : Nat) (x : PV) : Prop := ∀ {n r : Nat} {X : Prop} {R : MV → List MO → List MO → Prop}, h + 3 ≤ n → 4 * n ≤ r → R (mB true) [] [] → SpF ns n r 435 [.p x] [] R X
theorem Cl.up {ns : List Int} {h j : Nat} {x : PV} (c : Cl ns h x) (e : h ≤ j) : Cl ns j x := fun hn hr k => c (Nat.le_trans (Nat.add_le_add_right e 3) hn) hr k
theorem kidsC {ns : List Int} {m r h : Nat} {chk : List MO → Prop} (hc : ∀ σ, chk σ) (hm : h + 3 ≤ m) (hr : 4 * m ≤ r) {p0 p2 : Option MV} : ∀ (l : List PV) (p1 : Option MV) {Q : AS → Prop}, (∀ x ∈ l, Cl ns h x) → (∀ ρ, Q ⟨ρ, [.lst []]⟩) →
    vcComp (vcE (SpF ns m) r ns False (ME.lv 1)) (vcC (SpF ns m) r ns False (some ((ME.gl 35).call [ME.lv 1]).not)) chk [1] 0 l ⟨[p0, p1, p2], [.lst []]⟩ Q
  | [], z1_, z2_, z3_, k => comp_nil (k _)
  | x :: l, p1, Q, hx, k => by
    refine comp_cons (k_some ?_)
    repeat (walk_at "go")
    refine c_fn0 rfl fun f => hx x (.head _) hm hr ?_
    repeat (walk_at "go")
    exact ⟨hc _, kidsC hc hm hr l _ (fun y hy => hx y (.tail _ hy)) k⟩
theorem a435n {ns : List Int} {h s : Nat} {l : List PV} (hs : s = 51 ∨ s = 68) (hx : ∀ x ∈ l, Cl ns h x) (hl : l.length ≤ 9) : Cl ns (h + 1) (.tup [.str 0, .str s, .tup l]) := by
  intro n r X R hn hr k
  have h1 : 1 ≤ n := Nat.le_trans (Nat.le_add_left 1 (h + 3)) hn
  rcases hs with rfl | rfl
  all_goals
    refine sp_def rfl rfl rfl h1 hr rfl rfl rfl fun m r hm hr' => ?_
    repeat (walk_at "go")
    refine e_comp ?_
    repeat (walk_at "go")
    refine ⟨Nat.le_trans hl (by decide), kidsC (fun z_ => trivial) (nm3 hm hn) (r0 hr') l _ hx fun ρ => ?_⟩
    repeat (walk_at "go")
    exact hb0 k
theorem alP {P : PV → Prop} {a : PV} {l : List PV} (h : P a) (H : ∀ t ∈ l, P t) : ∀ t ∈ a :: l, P t := List.forall_mem_cons.mpr ⟨h, H⟩
theorem alP0 {P : PV → Prop} : ∀ t ∈ ([] : List PV), P t := fun z_ h => nomatch h
theorem cl_two {ns : List Int} {h s : Nat} {x y : PV} (hs : s = 51 ∨ s = 68) (a : Cl ns h x) (b : Cl ns h y) : Cl ns (h + 1) (.tup [.str 0, .str s, .tup [x, y]]) := a435n hs (alP a (alP b alP0)) (Nat.le_of_ble_eq_true rfl)
theorem cl_const {ns : List Int} {h : Nat} (g : GT) (ok : okG g = true) : Cl ns h (constP (kG g) (encG g)) := by
  obtain ⟨w, l, e, eh⟩ := constP_leaf g ok
  rw [e]
  intro n r X R hn hr k
  refine sp_def rfl rfl rfl (by walk_at "om") hr rfl rfl rfl fun m r hm hr' => ?_
  repeat (walk_at "go")
  refine if_t (by rw [bne, eh]; rfl) ?_
  repeat (walk_at "go")
  exact hb0 k
theorem cl_sym {ns : List Int} {h : Nat} (a : Nat) : Cl ns h (.tup [.str 2, .str a]) := fun hn hr k => symC (Nat.le_trans (Nat.le_add_left 1 (h + 2)) hn) hr k
theorem a435 {ns : List Int} (t : LT) : Cl ns (hgt t) (eT t) := by
  induction t with
  | sym a => exact cl_sym a
  | four =>
    intro n r X R hn hr k
    show SpF ns n r 435 [.p (.tup [.str 71, .int 4])] [] R X
    refine sp_def rfl rfl rfl (by walk_at "om") hr rfl rfl rfl fun m r hm hr' => ?_
    repeat (walk_at "go")
    exact hb0 k
  | call2 a b iha ihb => exact cl_two (.inl rfl) (iha.up (Nat.le_max_left _ _)) (ihb.up (Nat.le_max_right _ _))
  | call3 a b c iha ihb ihc => exact a435n (.inl rfl) (alP (iha.up (Nat.le_max_left _ _)) (alP (ihb.up (Nat.le_trans (Nat.le_max_left _ _) (Nat.le_max_right _ _))) (alP (ihc.up (Nat.le_trans (Nat.le_max_right _ _) (Nat.le_max_right _ _))) alP0))) (Nat.le_of_ble_eq_true rfl)
  | blk1 a iha => exact a435n (.inr rfl) (alP iha alP0) (Nat.le_of_ble_eq_true rfl)
  | blk2 a b iha ihb => exact cl_two (.inr rfl) (iha.up (Nat.le_max_left _ _)) (ihb.up (Nat.le_max_right _ _))
  | quo a z1_ => exact cl_const (toG a) (okT a)
  | same a iha => exact iha.up (Nat.le_succ _)
  | twice a iha => exact cl_two (.inr rfl) iha iha
  | first a b iha z1_ => exact iha.up (Nat.le_trans (Nat.le_max_left _ _) (Nat.le_succ _))
  | other a iha => exact cl_two (.inl rfl) (cl_sym 69) iha
  | word a z1_ => exact cl_const (toG a) (okT a)
end
/-! ## bounds -/
noncomputable def bN : Nat → Nat := fun y1_ => match y1_ with
  | 0 => 2
  | h + 1 => 4 + 3 * bN h
theorem bN_up : ∀ h, bN h ≤ bN (h + 1) := fun h => by show _ ≤ 4 + 3 * bN h; omega
theorem bN_le {a b : Nat} (h : a ≤ b) : bN a ≤ bN b := by
  induction h with
  | refl => exact Nat.le_refl _
  | step z1_ ih => exact Nat.le_trans ih (bN_up _)
theorem bN_two (h : Nat) : 2 ≤ bN h := bN_le (Nat.zero_le h)
section
variable {x y z x' y' z' x'' y'' z'' k : Nat}
theorem q1 (h : x + y + z ≤ k) : 1 + (x + 0) + (y + 1) + z ≤ 4 + 3 * k := by omega
theorem q2 (h : x + y + z ≤ k) (h' : x' + y' + z' ≤ k) : 1 + (x + (x' + 0)) + (y + y' + 1) + (z + z') ≤ 4 + 3 * k := by omega
theorem q3 (h : x + y + z ≤ k) (h' : x' + y' + z' ≤ k) (h'' : x'' + y'' + z'' ≤ k) : 1 + (x + (x' + (x'' + 0))) + (y + (y' + y'') + 1) + (z + (z' + z'')) ≤ 4 + 3 * k := by omega
theorem qq (h : x + y + z ≤ k) : 1 + (x + 0) + 1 + 0 ≤ 4 + 3 * k := by omega
theorem qs (h : x + y + z ≤ k) : 1 + (1 + (x + 0)) + (y + 1) + (1 + z) ≤ 4 + 3 * k := by omega
theorem qt (h : x + y + z ≤ k) : 1 + (1 + (x + 0)) + (y + y + 1) + (1 + z + z) ≤ 4 + 3 * k := by omega
theorem qf (h : x + y + z ≤ k) (h' : x' + y' + z' ≤ k) : 1 + (1 + (x + (x' + 0))) + (y + 1) + (1 + z) ≤ 4 + 3 * k := by omega
theorem qo (h : x + y + z ≤ k) (h2 : 2 ≤ k) : 1 + (1 + (x + 0)) + (1 + (y + 1) + 1) + (2 + z) ≤ 4 + 3 * k := by omega
theorem qw (h : x + y + z ≤ k) : 1 + (1 + (x + 0)) + 1 + 1 ≤ 4 + 3 * k := by omega
end
theorem bounds : ∀ (t : LT), szT t + mu t + cost t ≤ bN (hgt t) := fun y1_ => match y1_ with
  | .sym z1_ => Nat.le_refl 2
  | .four => Nat.le_refl 2
  | .call2 a b => q2 (Nat.le_trans (bounds a) (bN_le (Nat.le_max_left _ _))) (Nat.le_trans (bounds b) (bN_le (Nat.le_max_right _ _)))
  | .call3 a b c => q3 (Nat.le_trans (bounds a) (bN_le (Nat.le_max_left _ _))) (Nat.le_trans (bounds b) (bN_le (Nat.le_trans (Nat.le_max_left _ _) (Nat.le_max_right _ _)))) (Nat.le_trans (bounds c) (bN_le (Nat.le_trans (Nat.le_max_right _ _) (Nat.le_max_right _ _))))
  | .blk1 a => q1 (bounds a)
  | .blk2 a b => q2 (Nat.le_trans (bounds a) (bN_le (Nat.le_max_left _ _))) (Nat.le_trans (bounds b) (bN_le (Nat.le_max_right _ _)))
  | .quo a => qq (bounds a)
  | .same a => qs (bounds a)
  | .twice a => qt (bounds a)
  | .first a b => qf (Nat.le_trans (bounds a) (bN_le (Nat.le_max_left _ _))) (Nat.le_trans (bounds b) (bN_le (Nat.le_max_right _ _)))
  | .other a => qo (bounds a) (bN_two _)
  | .word a => qw (bounds a)
/-- a datum of bounded depth -/
noncomputable def Dd (d : Nat) (x : PV) : Prop := isData x = true ∧ (pvD x).depth ≤ d
noncomputable def DdL (d : Nat) (l : List PV) : Prop := areData l = true ∧ PyData.depthAll (pvDs l) ≤ d
@[reducible] noncomputable def Dt (h : Nat) (x : PV) : Prop := Dd (2 * h + 1) x
@[reducible] noncomputable def DtL (h : Nat) (l : List PV) : Prop := DdL (2 * h + 1) l
theorem Dd.to {d e : Nat} {x : PV} (a : Dd d x) (h : d ≤ e) : Dd e x := ⟨a.1, Nat.le_trans a.2 h⟩
theorem Dt.up {h k : Nat} {x : PV} (d : Dt h x) (hk : h ≤ k) : Dt k x := d.to (Nat.succ_le_succ (Nat.mul_le_mul_left 2 hk))
theorem Dd.str {d : Nat} (k : Nat) : Dd d (.str k) := ⟨rfl, Nat.zero_le _⟩
theorem Dd.int {d : Nat} (k : Int) : Dd d (.int k) := ⟨rfl, Nat.zero_le _⟩
theorem DdL.nil {h : Nat} : DdL h [] := ⟨rfl, Nat.zero_le _⟩
theorem DdL.cons {h : Nat} {x : PV} {l : List PV} (d : Dd h x) (e : DdL h l) : DdL h (x :: l) :=
  ⟨by rw [areData, d.1, e.1]; rfl, Nat.max_le.mpr ⟨d.2, e.2⟩⟩
theorem DdL.tup {h : Nat} {l : List PV} (e : DdL h l) : Dd (h + 1) (.tup l) := ⟨e.1, Nat.succ_le_succ e.2⟩
theorem DdL.two {h : Nat} {x y : PV} (d : Dd h x) (e : Dd h y) : DdL h [x, y] := .cons d (.cons e .nil)
theorem DtL.node {h : Nat} {s : Nat} {l : List PV} (e : DtL h l) : Dt (h + 1) (.tup [.str 0, .str s, .tup l]) := (DdL.cons (.str 0) (.two (.str s) e.tup)).tup
theorem DtL.one {h : Nat} {x : PV} (d : Dt h x) : DtL h [x] := DdL.cons d .nil
theorem DtL.two {h : Nat} {x y : PV} (d : Dt h x) (e : Dt h y) : DtL h [x, y] := DdL.two d e
theorem Dt.leaf {h : Nat} (a b : Nat) : Dt h (.tup [.str a, .str b]) := (DdL.two (.str a) (.str b)).tup
theorem Dt.four {h : Nat} : Dt h (.tup [.str 71, .int 4]) := (DdL.two (.str 71) (.int 4)).tup
theorem enc_data : ∀ t : LT, Dt (hgt t) (enc t) := fun y1_ => match y1_ with
  | .sym k => Dt.leaf 2 k
  | .four => Dt.four
  | .call2 a b => (DtL.two ((enc_data a).up (Nat.le_max_left _ _)) ((enc_data b).up (Nat.le_max_right _ _))).node
  | .call3 a b c => DtL.node (DdL.cons ((enc_data a).up (Nat.le_max_left _ _)) (.two ((enc_data b).up (Nat.le_trans (Nat.le_max_left _ _) (Nat.le_max_right _ _))) ((enc_data c).up (Nat.le_trans (Nat.le_max_right _ _) (Nat.le_max_right _ _)))))
  | .blk1 a => (DtL.one (enc_data a)).node
  | .blk2 a b => (DtL.two ((enc_data a).up (Nat.le_max_left _ _)) ((enc_data b).up (Nat.le_max_right _ _))).node
  | .quo a => (DtL.one (enc_data a)).node
  | .same a => (DtL.two (Dt.leaf 2 _) (enc_data a)).node
  | .twice a => (DtL.two (Dt.leaf 2 _) (enc_data a)).node
  | .first a b => DtL.node (DdL.cons (Dt.leaf 2 _) (.two ((enc_data a).up (Nat.le_max_left _ _)) ((enc_data b).up (Nat.le_max_right _ _))))
  | .other a => (DtL.two (Dt.leaf 2 _) (enc_data a)).node
  | .word a => (DtL.two (Dt.leaf 2 _) (enc_data a)).node
theorem wrap {h : Nat} {x : PV} (d : Dt h x) : Dt (h + 1) (.tup [.str 47, x]) ∧ Dt (h + 1) (.tup [.str 47, .tup [.str 48, x]]) :=
  ⟨(DdL.two (.str 47) d).tup.to (Nat.le_succ _), (DdL.two (.str 47) (DdL.two (.str 48) d).tup).tup⟩
theorem const_data (t : LT) : Dt (hgt t + 1) (constT t) := by
  unfold constT constP
  split
  · exact (wrap (enc_data t)).1
  · split
    · exact (wrap (enc_data t)).2
    · exact (enc_data t).up (Nat.le_succ _)
theorem eT_data : ∀ t : LT, Dt (hgt t) (eT t) := fun y1_ => match y1_ with
  | .sym k => Dt.leaf 2 k
  | .four => Dt.four
  | .call2 a b => (DtL.two ((eT_data a).up (Nat.le_max_left _ _)) ((eT_data b).up (Nat.le_max_right _ _))).node
  | .call3 a b c => DtL.node (DdL.cons ((eT_data a).up (Nat.le_max_left _ _)) (.two ((eT_data b).up (Nat.le_trans (Nat.le_max_left _ _) (Nat.le_max_right _ _))) ((eT_data c).up (Nat.le_trans (Nat.le_max_right _ _) (Nat.le_max_right _ _)))))
  | .blk1 a => (DtL.one (eT_data a)).node
  | .blk2 a b => (DtL.two ((eT_data a).up (Nat.le_max_left _ _)) ((eT_data b).up (Nat.le_max_right _ _))).node
  | .quo a => const_data a
  | .same a => (eT_data a).up (Nat.le_succ _)
  | .twice a => (DtL.two (eT_data a) (eT_data a)).node
  | .first a z1_ => (eT_data a).up (Nat.le_trans (Nat.le_max_left _ _) (Nat.le_succ _))
  | .other a => (DtL.two (Dt.leaf 2 69) (eT_data a)).node
  | .word a => const_data a
mutual
theorem eqv_self : ∀ x : PV, PyData.eqv (pvD x) (pvD x) = true := fun y1_ => match y1_ with
  | .int i => beq_self_eq_true i
  | .str k => beq_self_eq_true (S k)
  | .tup l => eqvs_self l
  | .con z1_ => rfl
  | .any => rfl
  | .scr => rfl
  | .cal z1_ => rfl
  | .fnc z1_ => rfl
  | .cls z1_ => rfl
theorem eqvs_self : ∀ l : List PV, PyData.eqvAll (pvDs l) (pvDs l) = true := fun y1_ => match y1_ with
  | [] => rfl
  | x :: l => (Bool.and_eq_true _ _).mpr ⟨eqv_self x, eqvs_self l⟩
end
/-- a datum is itself -/
theorem ne_self {σ : List MO} {t : LT} {l : List PV} {P : Bool → Prop} (e : eT t = .tup l) (hh : hgt t ≤ 10) (h : P false) : onP (vCmp σ .ne (.p (eT t)) (.p (eT t))) P := by
  obtain ⟨h1, h2⟩ := eT_data t
  rw [e] at h1 h2 ⊢
  simp only [isData] at h1
  simp only [pvD] at h2
  refine on (a := false) ?_ h
  have hf : flat l l = true := by
    unfold flat
    rw [h1, decide_eq_true (show (PyData.tuple (pvDs l)).depth ≤ 60 by omega)]
    rfl
  have e1 : vCmp σ .ne (.p (.tup l)) (.p (.tup l)) = orO (if flat l l = true then some (!PyData.eqvAll (pvDs l) (pvDs l)) else none) none := rfl
  rw [e1]
  rw [if_pos hf, eqvs_self l]
  rfl
/-! ## law -/
section
variable {n r : Nat} {ns : List Int} {X : Prop} {R : MV → List MO → List MO → Prop}
theorem a411 (hn : 1 ≤ n) (hr : 4 * n ≤ r) (k : R (.loc 0) [] macO) : SpF ns n r 411 [] [] R X := by
  obtain ⟨m, rfl⟩ : ∃ m, n = m + 1 := ⟨n - 1, by omega⟩
  refine ⟨hr, ?_⟩
  rw [if_pos (by decide), if_pos rfl]
  exact ⟨rfl, rfl, k⟩
theorem a152 (hn : 1 ≤ n) (hr : 4 * n ≤ r) (k : R mN [.inst 162 1, .dct [(30, mI 0)]] []) : SpF ns n r 152 [.loc 0] [.inst 162 1, .dct []] R X := by
  refine sp_def rfl rfl rfl (by walk_at "om") hr rfl rfl rfl fun m r hm hr' => ?_
  repeat (walk_at "go")
  exact hb_p (σ₁ := [.inst 162 1, .dct [(30, mI 0)]]) (by kernel_rfl!) k
theorem monoP {g : PV} : ∀ P Q : PV → Int → Prop, (∀ y f', P y f' → Q y f') → P g 0 → Q g 0 := fun z_ z_ h p => h _ _ p
theorem monoX {X : Prop} : ∀ P Q : PV → Int → Prop, (∀ y f', P y f' → Q y f') → X → X := fun z_ z_ z_ p => p
theorem a442 (hn : 5 ≤ n) (hr : 4 * n ≤ r) {x : PV} {f : Int} (hx : ∀ m r (X : Prop) F, n = m + 3 → 4 * m ≤ r → RunX ns m r 0 f X F x (fun z_ => X)) (k : R (mB true) [] []) : SpF ns n r 442 [.p x, .p (.int f)] [] R X := by
  refine sp_def rfl rfl rfl (by walk_at "om") hr rfl rfl rfl fun m r hm hr' => ?_
  refine b_cons (s_tr rfl ?_)
  repeat (walk_at "go")
  refine c_fn0 rfl fun z_ => a411 (by walk_at "om") (by walk_at "om") ?_
  repeat (walk_at "go")
  refine c_cls rfl (by walk_at "om") ?_
  refine c_fn (sel := [8, 7]) (ws := [.loc 0]) (σp := [.inst 162 1, .dct []]) (by kernel_rfl!) (a152 (by walk_at "om") (by walk_at "om") ?_)
  refine ⟨rfl, ?_⟩
  repeat (walk_at "go")
  refine c_fn (sel := [0, 8, 1, 2, 3, 4, 5, 6, 7]) (ws := [.p x, .loc 0, .loc 1, .p (.int f)]) (σp := XS 0) (by kernel_rfl!) ?_
  refine a383 (by walk_at "om") (by walk_at "om") monoX (fun m' r' F e hr'' => hx m' r' _ F (by walk_at "om") hr'') ?_
  repeat (walk_at "go")
  refine th_ret ?_
  repeat (walk_at "go")
  exact hb0 k
end
section
variable {n r : Nat} {ns : List Int} {X : Prop} {f k : Int}
theorem runx_ok (hn : 30 ≤ n) (hr : 4 * n ≤ r) (t : LT) (hz : 2 * szT t + 30 ≤ lim) (hm : 2 * mu t + 20 ≤ lim) (hf : f = cost t) (F : Fl → AS → Prop) : RunX ns n r k f X F (enc t) (fun P => P (eT t) 0) := by
  obtain ⟨s, hs⟩ := run_tree (ns := ns) (k := k) (X := X) (F := F) hn hr (mu t) t (Nat.le_refl _) hz
  refine ⟨1 + s, fun q => ?_⟩
  refine hs [] [] f 1 (by walk_at "om") (by simp only [List.length_nil]; omega) (fun hc => ?_) fun hc => by omega
  rw [show f - (cost t : Int) = 0 by omega]
  exact q
theorem runx_bad (hn : 30 ≤ n) (hr : 4 * n ≤ r) (t : LT) (hz : 2 * szT t + 30 ≤ lim) (hm : 2 * mu t + 20 ≤ lim) (hf0 : 0 ≤ f) (hf : f < cost t) (F : Fl → AS → Prop) : RunX ns n r k f X F (enc t) (fun z_ => X) := by
  obtain ⟨s, hs⟩ := run_tree (ns := ns) (k := k) (X := X) (F := F) hn hr (mu t) t (Nat.le_refl _) hz
  refine ⟨1 + s, fun q => ?_⟩
  exact hs [] [] f 1 (by walk_at "om") (by simp only [List.length_nil]; omega) (fun hc => by omega) fun hc => q
theorem setA_blk (hn : 3 ≤ n) (hr : 4 * n ≤ r) (l : List PV) : SetAt ns n r k f (.tup [.str 0, .str 68, .tup l]) X (fun P => P (.tup [.str 0, .str 68, .tup l]) f) := by
  intro R q
  refine sp_def rfl rfl rfl (by walk_at "om") hr rfl rfl rfl fun m r hm hr' => ?_
  refine b_cons ?_
  refine s_whl [0, 1] 1 (q := (sst f k (.tup [.str 0, .str 68, .tup l]), [])) (by kernel_rfl!) ?_
  refine set_node (.inr (.inl rfl)) ?_
  repeat (walk_at "go")
  exact hbES q
theorem setA_dollar (hn : 3 ≤ n) (hr : 4 * n ≤ r) (l : List PV) : SetAt ns n r k f (.tup [.str 0, .str 49, .tup l]) X (fun z_ => X) := by
  intro R q
  refine sp_def rfl rfl rfl (by walk_at "om") hr rfl rfl rfl fun m r hm hr' => ?_
  refine b_cons ?_
  refine s_whl [0, 1] 1 (q := (sst f k (.tup [.str 0, .str 49, .tup l]), [])) (by kernel_rfl!) ?_
  refine set_node (.inr (.inr rfl)) ?_
  repeat (walk_at "go")
  exact s_rai (e_str q)
theorem a354n (hn : 1 ≤ n) (hr : 4 * n ≤ r) {l : List PV} {R : MV → List MO → List MO → Prop} (hX : X) : SpF ns n r 354 [.loc 0, .p (.tup [.str 0, .str 41, .tup (.tup [.str 2, .str 73] :: l)])] (ES f k []) R X := by
  refine sp_def rfl rfl rfl (by walk_at "om") hr rfl rfl rfl fun m r hm hr' => ?_
  repeat (walk_at "go")
  refine s_rai (e_bin (e_str ?_))
  repeat (walk_at "go")
  exact on_bin (a := (.p .any, _)) rfl hX
theorem setA_none (hn : 3 ≤ n) (hr : 4 * n ≤ r) (l : List PV) : SetAt ns n r k f (.tup [.str 0, .str 41, .tup (.tup [.str 2, .str 73] :: l)]) X (fun z_ => X) := by
  intro R q
  refine sp_def rfl rfl rfl (by walk_at "om") hr rfl rfl rfl fun m r hm hr' => ?_
  refine b_cons ?_
  refine s_whl [0, 1] 1 (q := (sst f k (.tup [.str 0, .str 41, .tup (.tup [.str 2, .str 73] :: l)]), [])) (by kernel_rfl!) ?_
  refine u_step ?_
  repeat (walk_at "go")
  exact c_fn es_hand (a354n (by walk_at "om") (by walk_at "om") q)
@[reducible] noncomputable def everP : PV := .tup [.str 0, .str 41, .tup [.tup [.str 2, .str 67]]]
theorem a354e (hn : 24 ≤ n) (hr : 4 * n ≤ r) {R : MV → List MO → List MO → Prop} (q : 0 < f → R (.p everP) (ES (f - 1) k []) []) (hX : f ≤ 0 → X) : SpF ns n r 354 [.loc 0, .p everP] (ES f k []) R X := by
  refine sp_def rfl rfl rfl (by walk_at "om") hr rfl rfl rfl fun m r hm hr' => ?_
  repeat (walk_at "go")
  by_cases hf : f ≤ 0
  · refine if_t (decide_eq_true hf) ?_
    refine b_cons (s_rai (e_str ?_))
    exact hX hf
  · refine if_f (decide_eq_false hf) ?_
    repeat (walk_at "go")
    refine cut_from1 (show 1 ≤ lim by decide) ?_
    repeat (walk_at "go")
    refine c_loc rfl ?_
    refine c_fn_l rfl (aLam5 (by walk_at "om") (by walk_at "om") ?_)
    repeat (walk_at "go")
    have e : toldRaw 5 (.tup []) = toldRaw 5 (encG (.leaf 2 (.str 67))) := rfl
    rw [e]
    refine c_fn es_sup (told_ok (by walk_at "om") (by walk_at "om") 5 (by decide) (.leaf 2 (.str 67)) rfl (by decide) ?_)
    repeat (walk_at "go")
    exact hbES (q (by walk_at "om"))
theorem ever_loop (hn : 25 ≤ n) (hr : 4 * n ≤ r) (q : X) {F : Fl → AS → Prop} : ∀ (j : Nat) (f : Int), f = j → U (SpF ns n) r ns 11 sT sB [0, 1] X F (j + 1) (sst f k everP) := fun y1_ y2_ y3_ => match y1_, y2_, y3_ with
  | 0, f, e => by
    refine u_step ?_
    repeat (walk_at "go")
    exact c_fn es_hand (a354e (by walk_at "om") (by walk_at "om") (fun hf => by omega) fun z_ => q)
  | j + 1, f, e => by
    refine u_step ?_
    repeat (walk_at "go")
    refine c_fn es_hand (a354e (by walk_at "om") (by walk_at "om") (fun hf => ?_) fun z_ => q)
    rw [es_back]
    repeat (walk_at "go")
    exact u_next (m' := j + 1) (by walk_at "om") sst_norm (ever_loop hn hr q j (f - 1) (by walk_at "om"))
theorem setA_ever (hn : 26 ≤ n) (hr : 4 * n ≤ r) (j : Nat) : SetAt ns n r k j everP X (fun z_ => X) := by
  intro R q
  refine sp_def rfl rfl rfl (by walk_at "om") hr rfl rfl rfl fun m r hm hr' => ?_
  refine b_cons ?_
  refine s_whl [0, 1] (j + 1) (q := (sst j k everP, [])) (by kernel_rfl!) ?_
  exact ever_loop (by walk_at "om") (by walk_at "om") q j j rfl
theorem runx_dollar (hn : 3 ≤ n) (hr : 4 * n ≤ r) (l : List PV) (F : Fl → AS → Prop) : RunX ns n r k f X F (.tup [.str 0, .str 49, .tup l]) (fun z_ => X) :=
  ⟨1 + 1, fun q => run_one (T := []) (D := []) (by walk_at "om") hr monoX (setA_dollar hn hr l) (by decide) q⟩
theorem runx_blk (hn : 3 ≤ n) (hr : 4 * n ≤ r) {x : PV} (hx : SetAt ns n r k f x X (fun z_ => X)) (F : Fl → AS → Prop) : RunX ns n r k f X F (.tup [.str 0, .str 68, .tup [x]]) (fun z_ => X) :=
  ⟨1 + 1 + 1, fun q => run_one (T := []) (D := []) (ok := fun P => P (.tup [.str 0, .str 68, .tup [x]]) f) (by walk_at "om") hr (fun P Q h p => h _ _ p) (setA_blk hn hr [x]) (by decide)
    (.inr ⟨68, [x], rfl, (show 6 ≤ lim by decide), run_one (m := 1) (T := [rdy true (.tup [.str 0, .str 68, .tup [x]])]) (D := []) (by walk_at "om") hr monoX hx (show 6 ≤ lim by decide) q⟩)⟩
end
theorem mp_nil {α β : Type} {f : α → β} : List.map f [] = [] := rfl
theorem mp_cons {α β : Type} {f : α → β} {a : α} {l : List α} : List.map f (a :: l) = f a :: List.map f l := rfl
theorem pb_nil {f : Nat → Nat} {σ : List MO} : putBack f σ [] [] = σ := rfl
theorem bk_nil {n i : Nat} : backId [] n i = n + i := rfl
theorem pb_cons {f : Nat → Nat} {σ os : List MO} {i : Nat} {is : List Nat} {o : MO} : putBack f σ (i :: is) (o :: os) = putBack f (σ.set i (renO f o)) is os := rfl
theorem rn_lst {f : Nat → Nat} {l : List PV} : renO f (.lst l) = .lst l := rfl
theorem rn_bag {f : Nat → Nat} {x y : Int} : renO f (bagO x y) = bagO x y := rfl
theorem rn_fn {f : Nat → Nat} {k : Nat} : renO f (.fn k) = .fn k := rfl
section
variable {n r : Nat} {ns : List Int} {X : Prop} {R : MV → List MO → List MO → Prop}
noncomputable def turnB : List MS := [.asgT [4, 5] (.tup [(.call (.gl 28) [(.lv 0), (.lv 3)]), (.lst [])]), .asg 1 (.tup [(.str 0), (.str 68), (.tup [(.call (.gl 32) [(.lv 4), (.int 4)]), (.call (.gl 32) [(.lv 4), (.int 3)])])]), .asg 6 (.call (.gl 34) [(.lv 1), (.lv 5)]), .asg 7 (.call (.gl 27) [(.lv 1), (.call (.gl 31) []), (.call (.gl 11) []), (.call (.gl 4) [(.lv 5)])]), .iff (.or (.cmp .ne (.lv 7) (.lv 6)) (.not (.call (.gl 35) [(.lv 7)]))) [.ret (.con (.bool false))] [], .iff (.and (.cmp .ne (.lv 5) (.lst [])) (.not (.call (.gl 36) [(.lv 1), (.bin .sub (.call (.gl 4) [(.lv 5)]) (.int 1))]))) [.ret (.con (.bool false))] []]
set_option maxHeartbeats 1000000 in
theorem turn10 (hn : 75 ≤ n) (hr : 4 * n + 3 ≤ r) {t : Nat} (ht : t ≤ 1) {o0 o1 o2 o3 o4 o5 o6 o7 o8 o9 : MO} {y1 y2 y3 y4 y5 y6 y7 y8 y9 y10 y11 y12 y13 y14 y15 y16 y17 y18 y19 : Option MV} {F : Fl → AS → Prop}
    (k : ∀ (y1 y2 y3 y4 y5 y6 y7 y8 y9 y10 y11 y12 y13 y14 y15 y16 y17 y18 y19 : Option MV) (p0 p1 p2 p3 p4 p5 p6 p7 p8 p9 p10 p11 : MO), F .nxt ⟨[some (.p .scr), y1, y2, y3, y4, y5, y6, y7, y8, y9, y10, y11, y12, y13, y14, y15, y16, y17, y18, y19], [o0, o1, o2, o3, o4, o5, o6, o7, o8, o9, p0, p1, p2, p3, p4, p5, p6, p7, p8, p9, p10, p11]⟩) :
    vcB (SpF ns n) r ns 0 turnB False ⟨[some (.p .scr), y1, y2, some (.p (.int t)), y4, y5, y6, y7, y8, y9, y10, y11, y12, y13, y14, y15, y16, y17, y18, y19], [o0, o1, o2, o3, o4, o5, o6, o7, o8, o9]⟩ F := by
  unfold turnB
  repeat (walk_at "go")
  refine c_fn0 rfl fun z_ => a390 (by walk_at "om") (by walk_at "om") ht fun x y hx hy => ?_
  walk_at "st"
  repeat (walk_at "go")
  refine c_fn_lp rfl (a418 4 rfl (by walk_at "om") (by walk_at "om") hx hy fun t1 x1 y1 ht1 hx1 hy1 => ?_)
  walk_at "st"
  repeat (walk_at "go")
  refine c_fn_lp rfl (a418 3 rfl (by walk_at "om") (by walk_at "om") hx1 hy1 fun t2 x2 y2 ht2 hx2 hy2 => ?_)
  walk_at "st"
  repeat (walk_at "go")
  have hT : hgt (.blk2 t1 t2) ≤ 5 := Nat.succ_le_succ (Nat.max_le.mpr ⟨ht1, Nat.le_succ_of_le ht2⟩)
  have hb : szT (.blk2 t1 t2) + mu (.blk2 t1 t2) + cost (.blk2 t1 t2) ≤ 970 := Nat.le_trans (bounds _) (bN_le hT)
  have big : 3000 ≤ lim := by decide
  refine c_fn_pl rfl (a430 (.blk2 t1 t2) (by walk_at "om") (by walk_at "om") (by rw [List.length_nil]; omega) fun ms hms => ?_)
  walk_at "st"
  have hml : ms.length ≤ lim := by rw [hms]; omega
  repeat (walk_at "go")
  refine c_fn0 rfl fun z_ => a411 (by walk_at "om") (by walk_at "om") ?_
  unfold macO
  walk_at "st"
  repeat (walk_at "go")
  refine c_cls rfl (by walk_at "om") ?_
  refine c_fn (sel := [20, 19]) (ws := [.loc 0]) (σp := [.inst 162 1, .dct []]) (by kernel_rfl!) (a152 (by walk_at "om") (by walk_at "om") ?_)
  refine ⟨rfl, ?_⟩
  walk_at "st"
  repeat (walk_at "go")
  refine c_fn (sel := [12, 20, 13, 14, 15, 16, 17, 18, 19]) (ws := [.p (enc (.blk2 t1 t2)), .loc 0, .loc 1, .p (.int ms.length)]) (σp := XS 0) (by kernel_rfl!) ?_
  refine a383 (by walk_at "om") (by walk_at "om") monoP (fun m' r' F e hr'' => runx_ok (by walk_at "om") hr'' (.blk2 t1 t2) (by walk_at "om") (by walk_at "om") (by rw [hms]) F) ?_
  walk_at "st"
  have hE : eT (.blk2 t1 t2) = .tup [.str 0, .str 68, .tup [eT t1, eT t2]] := rfl
  have hT10 : hgt (.blk2 t1 t2) ≤ 10 := Nat.le_trans hT (by decide)
  repeat (first | with_reducible refine ne_self hE hT10 ?_ | walk_at "go")
  refine c_fn0 rfl fun z_ => a435 (.blk2 t1 t2) (by walk_at "om") (by walk_at "om") ?_
  walk_at "st"
  repeat (walk_at "go")
  cases ms with
  | nil =>
    repeat (walk_at "go")
    exact k _ _ _ _ _ _ _ _ _ _ _ _ _ _ _ _ _ _ _ _ _ _ _ _ _ _ _ _ _ _ _
  | cons q ms =>
    refine if_t rfl ?_
    repeat (walk_at "go")
    refine c_fn0 rfl fun z_ => a442 (by walk_at "om") (by walk_at "om") (fun m' r' X F e hr'' => runx_bad (by walk_at "om") hr'' (.blk2 t1 t2) (by walk_at "om") (by walk_at "om") ?_ ?_ F) ?_
    · simp only [List.length_cons] at hms ⊢; omega
    · simp only [List.length_cons] at hms ⊢; omega
    repeat (walk_at "go")
    exact k _ _ _ _ _ _ _ _ _ _ _ _ _ _ _ _ _ _ _ _ _ _ _ _ _ _ _ _ _ _ _
set_option maxHeartbeats 1000000 in
theorem turn22 (hn : 75 ≤ n) (hr : 4 * n + 3 ≤ r) {t : Nat} (ht : t ≤ 1) {o0 o1 o2 o3 o4 o5 o6 o7 o8 o9 o10 o11 o12 o13 o14 o15 o16 o17 o18 o19 o20 o21 : MO} {y1 y2 y3 y4 y5 y6 y7 y8 y9 y10 y11 y12 y13 y14 y15 y16 y17 y18 y19 : Option MV} {F : Fl → AS → Prop}
    (k : ∀ (y1 y2 y3 y4 y5 y6 y7 y8 y9 y10 y11 y12 y13 y14 y15 y16 y17 y18 y19 : Option MV) (p0 p1 p2 p3 p4 p5 p6 p7 p8 p9 p10 p11 : MO), F .nxt ⟨[some (.p .scr), y1, y2, y3, y4, y5, y6, y7, y8, y9, y10, y11, y12, y13, y14, y15, y16, y17, y18, y19], [o0, o1, o2, o3, o4, o5, o6, o7, o8, o9, o10, o11, o12, o13, o14, o15, o16, o17, o18, o19, o20, o21, p0, p1, p2, p3, p4, p5, p6, p7, p8, p9, p10, p11]⟩) :
    vcB (SpF ns n) r ns 0 turnB False ⟨[some (.p .scr), y1, y2, some (.p (.int t)), y4, y5, y6, y7, y8, y9, y10, y11, y12, y13, y14, y15, y16, y17, y18, y19], [o0, o1, o2, o3, o4, o5, o6, o7, o8, o9, o10, o11, o12, o13, o14, o15, o16, o17, o18, o19, o20, o21]⟩ F := by
  unfold turnB
  repeat (walk_at "go")
  refine c_fn0 rfl fun z_ => a390 (by walk_at "om") (by walk_at "om") ht fun x y hx hy => ?_
  walk_at "st"
  repeat (walk_at "go")
  refine c_fn_lp rfl (a418 4 rfl (by walk_at "om") (by walk_at "om") hx hy fun t1 x1 y1 ht1 hx1 hy1 => ?_)
  walk_at "st"
  repeat (walk_at "go")
  refine c_fn_lp rfl (a418 3 rfl (by walk_at "om") (by walk_at "om") hx1 hy1 fun t2 x2 y2 ht2 hx2 hy2 => ?_)
  walk_at "st"
  repeat (walk_at "go")
  have hT : hgt (.blk2 t1 t2) ≤ 5 := Nat.succ_le_succ (Nat.max_le.mpr ⟨ht1, Nat.le_succ_of_le ht2⟩)
  have hb : szT (.blk2 t1 t2) + mu (.blk2 t1 t2) + cost (.blk2 t1 t2) ≤ 970 := Nat.le_trans (bounds _) (bN_le hT)
  have big : 3000 ≤ lim := by decide
  refine c_fn_pl rfl (a430 (.blk2 t1 t2) (by walk_at "om") (by walk_at "om") (by rw [List.length_nil]; omega) fun ms hms => ?_)
  walk_at "st"
  have hml : ms.length ≤ lim := by rw [hms]; omega
  repeat (walk_at "go")
  refine c_fn0 rfl fun z_ => a411 (by walk_at "om") (by walk_at "om") ?_
  unfold macO
  walk_at "st"
  repeat (walk_at "go")
  refine c_cls rfl (by walk_at "om") ?_
  refine c_fn (sel := [32, 31]) (ws := [.loc 0]) (σp := [.inst 162 1, .dct []]) (by kernel_rfl!) (a152 (by walk_at "om") (by walk_at "om") ?_)
  refine ⟨rfl, ?_⟩
  walk_at "st"
  repeat (walk_at "go")
  refine c_fn (sel := [24, 32, 25, 26, 27, 28, 29, 30, 31]) (ws := [.p (enc (.blk2 t1 t2)), .loc 0, .loc 1, .p (.int ms.length)]) (σp := XS 0) (by kernel_rfl!) ?_
  refine a383 (by walk_at "om") (by walk_at "om") monoP (fun m' r' F e hr'' => runx_ok (by walk_at "om") hr'' (.blk2 t1 t2) (by walk_at "om") (by walk_at "om") (by rw [hms]) F) ?_
  walk_at "st"
  have hE : eT (.blk2 t1 t2) = .tup [.str 0, .str 68, .tup [eT t1, eT t2]] := rfl
  have hT10 : hgt (.blk2 t1 t2) ≤ 10 := Nat.le_trans hT (by decide)
  repeat (first | with_reducible refine ne_self hE hT10 ?_ | walk_at "go")
  refine c_fn0 rfl fun z_ => a435 (.blk2 t1 t2) (by walk_at "om") (by walk_at "om") ?_
  walk_at "st"
  repeat (walk_at "go")
  cases ms with
  | nil =>
    repeat (walk_at "go")
    exact k _ _ _ _ _ _ _ _ _ _ _ _ _ _ _ _ _ _ _ _ _ _ _ _ _ _ _ _ _ _ _
  | cons q ms =>
    refine if_t rfl ?_
    repeat (walk_at "go")
    refine c_fn0 rfl fun z_ => a442 (by walk_at "om") (by walk_at "om") (fun m' r' X F e hr'' => runx_bad (by walk_at "om") hr'' (.blk2 t1 t2) (by walk_at "om") (by walk_at "om") ?_ ?_ F) ?_
    · simp only [List.length_cons] at hms ⊢; omega
    · simp only [List.length_cons] at hms ⊢; omega
    repeat (walk_at "go")
    exact k _ _ _ _ _ _ _ _ _ _ _ _ _ _ _ _ _ _ _ _ _ _ _ _ _ _ _ _ _ _ _
end
section
variable {n r : Nat} {ns : List Int} {X : Prop} {R : MV → List MO → List MO → Prop}
theorem lim_ok {a : Nat} (h : a ≤ 3000) : a ≤ lim := Nat.le_trans h (by decide)
theorem a449 (hn : 80 ≤ n) (hr : 4 * n ≤ r) (k : R (mB true) [] []) : SpF ns n r 449 [.p .scr] [] R X := by
  refine sp_def rfl rfl rfl (by walk_at "om") hr rfl rfl rfl fun m r hm hr' => ?_
  repeat (walk_at "go")
  refine s_for ?_
  repeat (walk_at "go")
  refine u_cons ?_
  repeat (walk_at "go")
  refine c_fn0 rfl fun z_ => a442 (by walk_at "om") (by walk_at "om") (fun m' r' X F e hr'' => runx_blk (by walk_at "om") hr'' (setA_none (by walk_at "om") hr'' _) F) ?_
  walk_at "st"
  repeat (walk_at "go")
  refine u_cons ?_
  repeat (walk_at "go")
  refine c_fn0 rfl fun z_ => a442 (by walk_at "om") (by walk_at "om") (fun m' r' X F e hr'' => runx_blk (by walk_at "om") hr'' (setA_ever (by walk_at "om") hr'' 20) F) ?_
  walk_at "st"
  repeat (walk_at "go")
  refine u_nil ?_
  repeat (walk_at "go")
  refine c_fn0 rfl fun z_ => a411 (by walk_at "om") (by walk_at "om") ?_
  unfold macO
  walk_at "st"
  repeat (walk_at "go")
  refine c_cls rfl (by walk_at "om") ?_
  refine c_fn (sel := [9, 8]) (ws := [.loc 0]) (σp := [.inst 162 1, .dct []]) (by kernel_rfl!) (a152 (by walk_at "om") (by walk_at "om") ?_)
  refine ⟨rfl, ?_⟩
  walk_at "st"
  repeat (walk_at "go")
  refine c_fn (sel := [1, 9, 2, 3, 4, 5, 6, 7, 8]) (ws := [.p (enc (.same (.other (.sym 70)))), .loc 0, .loc 1, .p (.int 3)]) (σp := XS 0) (by kernel_rfl!) ?_
  refine a383 (by walk_at "om") (by walk_at "om") monoP (fun m' r' F e hr'' => runx_ok (by walk_at "om") hr'' (.same (.other (.sym 70))) (by decide) (by decide) rfl F) ?_
  walk_at "st"
  repeat (walk_at "go")

  repeat (walk_at "go")
  refine c_fn0 rfl fun z_ => a442 (by walk_at "om") (by walk_at "om") (fun m' r' X F e hr'' => runx_bad (by walk_at "om") hr'' (.same (.other (.sym 70))) (by decide) (by decide) (by decide) (by decide) F) ?_
  walk_at "st"
  repeat (walk_at "go")
  refine c_fn0 rfl fun z_ => a442 (by walk_at "om") (by walk_at "om") (fun m' r' X F e hr'' => runx_dollar (by walk_at "om") hr'' _ F) ?_
  walk_at "st"
  repeat (walk_at "go")
  refine s_forR ?_
  repeat (walk_at "go")
  refine p_lenS ?_
  repeat (walk_at "go")
  refine c_cal (q := (mI (min ns.length 2), _)) rfl ?_
  repeat (walk_at "go")
  refine c_cal (q := (mI (max 1 (min ns.length 2)), _)) rfl ?_
  repeat (walk_at "go")
  refine ⟨⟨by omega, by unfold lim; omega⟩, ?_⟩
  have hr2 : rangeP (max 1 (min (ns.length : Int) 2)) = [.int (0 : Nat)] ∨ rangeP (max 1 (min (ns.length : Int) 2)) = [.int (0 : Nat), .int (1 : Nat)] := by
    by_cases h : ns.length ≤ 1
    · rw [show max 1 (min (ns.length : Int) 2) = 1 by omega]
      exact .inl rfl
    · rw [show max 1 (min (ns.length : Int) 2) = 2 by omega]
      exact .inr rfl
  rcases hr2 with e | e
  · rw [e]
    refine u_cons ?_
    refine turn10 (y3 := none) (t := 0) (by walk_at "om") (by walk_at "om") (by decide) fun z_ z_ z_ z_ z_ z_ z_ z_ z_ z_ z_ z_ z_ z_ z_ z_ z_ z_ z_ z_ z_ z_ z_ z_ z_ z_ z_ z_ z_ z_ z_ => ?_
    refine tw_nxt ⟨trivial, u_nil (ts_nxt ?_)⟩
    repeat (walk_at "go")
    exact hb0 k
  · rw [e]
    refine u_cons ?_
    refine turn10 (y3 := none) (t := 0) (by walk_at "om") (by walk_at "om") (by decide) fun z_ z_ z_ z_ z_ z_ z_ z_ z_ z_ z_ z_ z_ z_ z_ z_ z_ z_ z_ z_ z_ z_ z_ z_ z_ z_ z_ z_ z_ z_ z_ => ?_
    refine tw_nxt ⟨trivial, u_cons ?_⟩
    refine turn22 (y3 := none) (t := 1) (by walk_at "om") (by walk_at "om") (by decide) fun z_ z_ z_ z_ z_ z_ z_ z_ z_ z_ z_ z_ z_ z_ z_ z_ z_ z_ z_ z_ z_ z_ z_ z_ z_ z_ z_ z_ z_ z_ z_ => ?_
    refine tw_nxt ⟨trivial, u_nil (ts_nxt ?_)⟩
    repeat (walk_at "go")
    exact hb0 k
end
end Mine
namespace Mine
/-! ## the heap behind the top, written out -/
@[reducible] noncomputable def pw : Program := PySem.Challenge.pw_pc0210_01
noncomputable def bodyOf : List Stmt → List Stmt
  | .ClassDef _ _ _ b .. :: _ => b
  | .FunctionDef _ _ b .. :: _ => b
  | _ => []
noncomputable def paramsOf : List Stmt → Arguments
  | .FunctionDef _ a .. :: _ => a
  | _ => default
noncomputable def scopeOf : List Stmt → Scope
  | .FunctionDef _ _ _ _ _ _ s .. :: _ => s
  | _ => default
noncomputable def st (i : Nat) : List Stmt := (behindTheImports pw).drop i
noncomputable def mt (i j : Nat) : List Stmt := (bodyOf (st i)).drop j
@[reducible] noncomputable def sv (x : String) (t : Tok) : Value := .str (Str.ofString x) t
@[reducible] noncomputable def tpO (vs : List Value) (n : Nat) : Obj := { cls := .type "tuple", data := .seq vs.toArray n }
@[reducible] noncomputable def tabO (vs : List Value) : Obj := { cls := .none, data := .fields vs.toArray }
@[reducible] noncomputable def fldO (c : String) (vs : List Value) : Obj := { cls := .type c, data := .fields vs.toArray }
noncomputable def ents (P : Params) : List (String × Tok × Value) → List DictEntry
  | [] => []
  | (k, t, v) :: r => ⟨PyData.keyHash P (Str.ofString k), .str (Str.ofString k) t, v⟩ :: ents P r
@[reducible] noncomputable def dctO (P : Params) (c : Value) (l : List (String × Tok × Value)) (n : Nat) : Obj := { cls := c, data := .dict (ents P l).toArray n }
@[reducible] noncomputable def fnO (l : List Stmt) (c : Value) (n q : String) (gl : Addr) (df pm cd : Value) : Obj :=
  { cls := c, data := .func { name := Str.ofString n, qualname := Str.ofString q, params := paramsOf l, body := .stmts (bodyOf l), scope := scopeOf l, globals := gl, closure := [], defaults := df, kwdefaults := .none, pyModule := pm, code := cd } }
noncomputable def o2 (P : Params) : Obj := dctO P .none [("type.__subclasses__.Exception.0", 216, (.int 32 0)), ("type.__subclasses__.Exception.n", 217, (.int 1 0))] 2
noncomputable def o3 (P : Params) : Obj := dctO P (.type "dict") [("__name__", 165, (sv "law_pc0210_01" 749)), ("__doc__", 166, .none), ("__package__", 167, .none), ("__loader__", 168, (.builtin "__main__.__loader__#opaque")), ("__spec__", 169, .none), ("__annotations__", 170, (.ref 6)), ("__builtins__", 171, (.ref 4)), ("__file__", 173, (sv "/claim/cut.py" 172)), ("__cached__", 174, .none), ("RowsError", 219, (.ref 32)), ("MacroFault", 235, (.ref 45)), ("expr", 245, (.ref 54)), ("is_expr", 253, (.ref 61)), ("head_of", 260, (.ref 68)), ("parts_of", 267, (.ref 75)), ("is_sym", 274, (.ref 82)), ("OPENING", 292, (.ref 83)), ("CHANGING", 300, (.ref 84)), ("place_names", 310, (.ref 91)), ("declared_names", 319, (.ref 98)), ("own_names", 325, (.ref 103)), ("argument_names", 332, (.ref 110)), ("head_call", 339, (.ref 117)), ("head_names", 350, (.ref 124)), ("keyword_names", 360, (.ref 131)), ("where_names", 369, (.ref 138)), ("MOST_DEEP", 373, (.int 120 372)), ("NameSupply", 409, (.ref 162)), ("bare", 423, (.ref 173)), ("Renamer", 601, (.ref 280)), ("renamed_locals", 609, (.ref 291)), ("MAKER", 615, (.ref 293)), ("plain_maker", 622, (.ref 300)), ("part_maker", 629, (.ref 307)), ("inner_depth", 637, (.ref 314)), ("put_in", 644, (.ref 321)), ("joined_parts", 650, (.ref 326)), ("quoted", 667, (.ref 333)), ("MOST_EXPANSIONS", 671, (.int 2000 670)), ("Expander", 738, (.ref 371)), ("expanded", 748, (.ref 383)), ("_law_bag", 760, (.ref 390)), ("_law_pick", 769, (.ref 397)), ("_law_kept", 776, (.ref 404)), ("_law_macros", 782, (.ref 411)), ("_law_tree", 793, (.ref 418)), ("_law_constant", 800, (.ref 425)), ("_law_due", 806, (.ref 430)), ("_law_is_clean", 812, (.ref 435)), ("_law_refused", 820, (.ref 442)), ("law", 834, (.ref 449))] 51
noncomputable def o11 (P : Params) : Obj := tpO [] 0
noncomputable def o12 (P : Params) : Obj := tabO [(.int 2 0), (.int 0 0), (.ref 20), (.int 8 0), (.int 0 0), (.ref 41), (.int 11 0), (.int 0 0), (.ref 53), (.int 13 0), (.int 0 0), (.ref 60), (.int 15 0), (.int 0 0), (.ref 67), (.int 17 0), (.int 0 0), (.ref 74), (.int 19 0), (.int 0 0), (.ref 81), (.int 24 0), (.int 0 0), (.ref 90), (.int 35 0), (.int 0 0), (.ref 97), (.int 40 0), (.int 0 0), (.ref 102), (.int 56 0), (.int 0 0), (.ref 109), (.int 60 0), (.int 0 0), (.ref 116), (.int 64 0), (.int 0 0), (.ref 123), (.int 78 0), (.int 0 0), (.ref 130), (.int 85 0), (.int 0 0), (.ref 137), (.int 96 0), (.int 0 0), (.ref 144), (.int 104 0), (.int 0 0), (.ref 172), (.int 122 0), (.int 0 0), (.ref 179), (.int 247 0), (.int 0 0), (.ref 290), (.int 251 0), (.int 0 0), (.ref 299), (.int 255 0), (.int 0 0), (.ref 306), (.int 257 0), (.int 0 0), (.ref 313), (.int 261 0), (.int 0 0), (.ref 320), (.int 265 0), (.int 0 0), (.ref 325), (.int 270 0), (.int 0 0), (.ref 332), (.int 293 0), (.int 0 0), (.ref 339), (.int 338 0), (.int 0 0), (.ref 382), (.int 341 0), (.int 0 0), (.ref 389), (.int 345 0), (.int 0 0), (.ref 396), (.int 352 0), (.int 0 0), (.ref 403), (.int 354 0), (.int 0 0), (.ref 410), (.int 362 0), (.int 0 0), (.ref 417), (.int 377 0), (.int 0 0), (.ref 424), (.int 381 0), (.int 0 0), (.ref 429), (.int 398 0), (.int 0 0), (.ref 434), (.int 404 0), (.int 0 0), (.ref 441), (.int 410 0), (.int 0 0), (.ref 448)]
noncomputable def o13 (P : Params) : Obj := fldO "code" [(sv "<module>" 182), (sv "<module>" 183), (sv "/claim/cut.py" 184), (.int 1 0), (.int 0 0), (.int 0 0), (.int 0 0), (.int 0 0), (.ref 11), (.bool false), (.int 181 0), (.ref 12), .none, .none, .none, .none, (.int 185 0), (.int 1 0), (sv "/claim/cut.py" 186)]
noncomputable def o14 (P : Params) : Obj := { cls := (.type "frame"), slots := #[some (.ref 13), some (.ref 3), some (.ref 3), none, some (sv "__main__" 164), none, some (.ref 0)] }
noncomputable def o15 (P : Params) : Obj := tpO [(.type "Exception")] 0
noncomputable def o16 (P : Params) : Obj := fldO "builtin_function_or_method" [(.builtin "type.__prepare__"), (.type "type")]
noncomputable def o17 (P : Params) : Obj := dctO P (.type "dict") [("__module__", 196, (sv "methodrows.errors" 187)), ("__qualname__", 198, (sv "RowsError" 197)), ("__firstlineno__", 200, (.int 2 199)), ("__init__", 209, (.ref 29)), ("__static_attributes__", 212, (.ref 30))] 5
noncomputable def o18 (P : Params) : Obj := tpO [] 0
noncomputable def o19 (P : Params) : Obj := tabO [(.int 4 0), (.int 4 0), (.ref 28)]
noncomputable def o20 (P : Params) : Obj := fldO "code" [(sv "RowsError" 191), (sv "RowsError" 192), (sv "/claim/cut.py" 193), (.int 2 0), (.int 0 0), (.int 0 0), (.int 0 0), (.int 0 0), (.ref 18), (.bool false), (.int 181 0), (.ref 19), .none, .none, .none, .none, (.int 194 0), (.int 2 0), (sv "/claim/cut.py" 195)]
noncomputable def o21 (P : Params) : Obj := { cls := (.type "frame"), slots := #[some (.ref 20), some (.ref 3), some (.ref 17), none, some (sv "methodrows.errors" 187), none, some (.ref 0)] }
noncomputable def o22 (P : Params) : Obj := tpO [.none] 0
noncomputable def o23 (P : Params) : Obj := tpO [] 0
noncomputable def o24 (P : Params) : Obj := tabO []
noncomputable def o25 (P : Params) : Obj := tpO [(sv "self" 204), (sv "message" 205), (sv "spot" 206)] 0
noncomputable def o26 (P : Params) : Obj := tpO [] 0
noncomputable def o27 (P : Params) : Obj := fnO (mt 1 0) .none "__init__" "RowsError.__init__" 0 .none .none .none
noncomputable def o28 (P : Params) : Obj := fldO "code" [(sv "__init__" 201), (sv "RowsError.__init__" 202), (sv "/claim/cut.py" 203), (.int 4 0), (.int 3 0), (.int 0 0), (.int 0 0), (.int 3 0), (.ref 23), (.bool true), (.int 181 0), (.ref 24), .none, (.ref 25), (.ref 26), (.ref 27), (.int 207 0), (.int 4 0), (sv "/claim/cut.py" 208)]
noncomputable def o29 (P : Params) : Obj := fnO (mt 1 0) (.type "function") "__init__" "RowsError.__init__" 3 (.ref 22) (sv "methodrows.errors" 187) (.ref 28)
noncomputable def o30 (P : Params) : Obj := tpO [(sv "message" 210), (sv "spot" 211)] 0
noncomputable def o31 (P : Params) : Obj := dctO P (.type "dict") [("__module__", 196, (sv "methodrows.errors" 187)), ("__firstlineno__", 200, (.int 2 199)), ("__init__", 209, (.ref 29)), ("__static_attributes__", 212, (.ref 30)), ("__weakref__", 214, (.ref 33)), ("__doc__", 215, .none)] 3
noncomputable def o32 (P : Params) : Obj := { cls := (.type "type"), data := .cls { name := (Str.ofString "RowsError"), bases := [(.type "Exception")], mro := [(.ref 32), (.type "Exception"), (.type "BaseException"), (.type "object")], ns := 31, qualname := (Str.ofString "RowsError"), hasDict := true, slotNames := [], subclasses := [(.ref 45)], abstract := false, collection := none, hasDel := false }, slots := #[some (.ref 15), none, some (sv "RowsError" 189), some (sv "RowsError" 197), some (.builtin "Exception.__new__"), some (.bool true)] }
noncomputable def o33 (P : Params) : Obj := fldO "getset_descriptor" [(sv "__weakref__" 213), (.ref 32), (.builtin "ExceptionGroup.__weakref__"), .none]
noncomputable def o34 (P : Params) : Obj := fldO "super" [(.ref 32), (.ref 32), (.ref 32)]
noncomputable def o35 (P : Params) : Obj := fldO "builtin_function_or_method" [(.builtin "object.__init_subclass__"), (.ref 32)]
noncomputable def o36 (P : Params) : Obj := tpO [(.ref 32)] 0
noncomputable def o37 (P : Params) : Obj := fldO "builtin_function_or_method" [(.builtin "type.__prepare__"), (.type "type")]
noncomputable def o38 (P : Params) : Obj := dctO P (.type "dict") [("__module__", 227, (sv "methodrows.errors" 187)), ("__qualname__", 229, (sv "MacroFault" 228)), ("__firstlineno__", 231, (.int 8 230)), ("__static_attributes__", 232, (.ref 43))] 4
noncomputable def o39 (P : Params) : Obj := tpO [] 0
noncomputable def o40 (P : Params) : Obj := tabO []
noncomputable def o41 (P : Params) : Obj := fldO "code" [(sv "MacroFault" 222), (sv "MacroFault" 223), (sv "/claim/cut.py" 224), (.int 8 0), (.int 0 0), (.int 0 0), (.int 0 0), (.int 0 0), (.ref 39), (.bool false), (.int 181 0), (.ref 40), .none, .none, .none, .none, (.int 225 0), (.int 8 0), (sv "/claim/cut.py" 226)]
noncomputable def o42 (P : Params) : Obj := { cls := (.type "frame"), slots := #[some (.ref 41), some (.ref 3), some (.ref 38), none, some (sv "methodrows.errors" 187), none, some (.ref 0)] }
noncomputable def o43 (P : Params) : Obj := tpO [] 0
noncomputable def o44 (P : Params) : Obj := dctO P (.type "dict") [("__module__", 227, (sv "methodrows.errors" 187)), ("__firstlineno__", 231, (.int 8 230)), ("__static_attributes__", 232, (.ref 43)), ("__doc__", 233, .none)] 2
noncomputable def o45 (P : Params) : Obj := { cls := (.type "type"), data := .cls { name := (Str.ofString "MacroFault"), bases := [(.ref 32)], mro := [(.ref 45), (.ref 32), (.type "Exception"), (.type "BaseException"), (.type "object")], ns := 44, qualname := (Str.ofString "MacroFault"), hasDict := true, slotNames := [], subclasses := [], abstract := false, collection := none, hasDel := false }, slots := #[some (.ref 36), none, some (sv "MacroFault" 220), some (sv "MacroFault" 228), some (.builtin "Exception.__new__"), some (.bool true)] }
noncomputable def o46 (P : Params) : Obj := fldO "super" [(.ref 45), (.ref 45), (.ref 45)]
noncomputable def o47 (P : Params) : Obj := fldO "builtin_function_or_method" [(.builtin "object.__init_subclass__"), (.ref 45)]
noncomputable def o48 (P : Params) : Obj := tpO [] 0
noncomputable def o49 (P : Params) : Obj := tabO []
noncomputable def o50 (P : Params) : Obj := tpO [(sv "head" 241), (sv "parts" 242)] 0
noncomputable def o51 (P : Params) : Obj := tpO [] 0
noncomputable def o52 (P : Params) : Obj := fnO (st 4) .none "expr" "expr" 0 .none .none .none
noncomputable def o53 (P : Params) : Obj := fldO "code" [(sv "expr" 238), (sv "expr" 239), (sv "/claim/cut.py" 240), (.int 11 0), (.int 2 0), (.int 0 0), (.int 0 0), (.int 3 0), (.ref 48), (.bool true), (.int 181 0), (.ref 49), .none, (.ref 50), (.ref 51), (.ref 52), (.int 243 0), (.int 11 0), (sv "/claim/cut.py" 244)]
noncomputable def o54 (P : Params) : Obj := fnO (st 4) (.type "function") "expr" "expr" 3 .none (sv "methodrows.forms" 236) (.ref 53)
noncomputable def o55 (P : Params) : Obj := tpO [] 0
noncomputable def o56 (P : Params) : Obj := tabO []
noncomputable def o57 (P : Params) : Obj := tpO [(sv "tree" 249), (sv "head" 250)] 0
noncomputable def o58 (P : Params) : Obj := tpO [] 0
noncomputable def o59 (P : Params) : Obj := fnO (st 5) .none "is_expr" "is_expr" 0 .none .none .none
noncomputable def o60 (P : Params) : Obj := fldO "code" [(sv "is_expr" 246), (sv "is_expr" 247), (sv "/claim/cut.py" 248), (.int 13 0), (.int 2 0), (.int 0 0), (.int 0 0), (.int 3 0), (.ref 55), (.bool true), (.int 181 0), (.ref 56), .none, (.ref 57), (.ref 58), (.ref 59), (.int 251 0), (.int 13 0), (sv "/claim/cut.py" 252)]
noncomputable def o61 (P : Params) : Obj := fnO (st 5) (.type "function") "is_expr" "is_expr" 3 .none (sv "methodrows.forms" 236) (.ref 60)
noncomputable def o62 (P : Params) : Obj := tpO [] 0
noncomputable def o63 (P : Params) : Obj := tabO []
noncomputable def o64 (P : Params) : Obj := tpO [(sv "tree" 257)] 0
noncomputable def o65 (P : Params) : Obj := tpO [] 0
noncomputable def o66 (P : Params) : Obj := fnO (st 6) .none "head_of" "head_of" 0 .none .none .none
noncomputable def o67 (P : Params) : Obj := fldO "code" [(sv "head_of" 254), (sv "head_of" 255), (sv "/claim/cut.py" 256), (.int 15 0), (.int 1 0), (.int 0 0), (.int 0 0), (.int 3 0), (.ref 62), (.bool true), (.int 181 0), (.ref 63), .none, (.ref 64), (.ref 65), (.ref 66), (.int 258 0), (.int 15 0), (sv "/claim/cut.py" 259)]
noncomputable def o68 (P : Params) : Obj := fnO (st 6) (.type "function") "head_of" "head_of" 3 .none (sv "methodrows.forms" 236) (.ref 67)
noncomputable def o69 (P : Params) : Obj := tpO [] 0
noncomputable def o70 (P : Params) : Obj := tabO []
noncomputable def o71 (P : Params) : Obj := tpO [(sv "tree" 264)] 0
noncomputable def o72 (P : Params) : Obj := tpO [] 0
noncomputable def o73 (P : Params) : Obj := fnO (st 7) .none "parts_of" "parts_of" 0 .none .none .none
noncomputable def o74 (P : Params) : Obj := fldO "code" [(sv "parts_of" 261), (sv "parts_of" 262), (sv "/claim/cut.py" 263), (.int 17 0), (.int 1 0), (.int 0 0), (.int 0 0), (.int 3 0), (.ref 69), (.bool true), (.int 181 0), (.ref 70), .none, (.ref 71), (.ref 72), (.ref 73), (.int 265 0), (.int 17 0), (sv "/claim/cut.py" 266)]
noncomputable def o75 (P : Params) : Obj := fnO (st 7) (.type "function") "parts_of" "parts_of" 3 .none (sv "methodrows.forms" 236) (.ref 74)
noncomputable def o76 (P : Params) : Obj := tpO [] 0
noncomputable def o77 (P : Params) : Obj := tabO []
noncomputable def o78 (P : Params) : Obj := tpO [(sv "tree" 271)] 0
noncomputable def o79 (P : Params) : Obj := tpO [] 0
noncomputable def o80 (P : Params) : Obj := fnO (st 8) .none "is_sym" "is_sym" 0 .none .none .none
noncomputable def o81 (P : Params) : Obj := fldO "code" [(sv "is_sym" 268), (sv "is_sym" 269), (sv "/claim/cut.py" 270), (.int 19 0), (.int 1 0), (.int 0 0), (.int 0 0), (.int 3 0), (.ref 76), (.bool true), (.int 181 0), (.ref 77), .none, (.ref 78), (.ref 79), (.ref 80), (.int 272 0), (.int 19 0), (sv "/claim/cut.py" 273)]
noncomputable def o82 (P : Params) : Obj := fnO (st 8) (.type "function") "is_sym" "is_sym" 3 .none (sv "methodrows.forms" 236) (.ref 81)
noncomputable def o83 (P : Params) : Obj := tpO [(sv "function" 277), (sv "->" 278), (sv "do" 279), (sv "let" 280), (sv "for" 281), (sv "while" 282), (sv "try" 283), (sv "comprehension" 284), (sv "generator" 285), (sv "macro" 286), (sv "quote" 287), (sv "escape" 288), (sv "struct" 289), (sv "abstract" 290), (sv "generated" 291)] 0
noncomputable def o84 (P : Params) : Obj := tpO [(sv "+=" 293), (sv "-=" 294), (sv "*=" 295), (sv "//=" 296), (sv "%=" 297), (sv "|=" 298), (sv "&=" 299)] 0
noncomputable def o85 (P : Params) : Obj := tpO [] 0
noncomputable def o86 (P : Params) : Obj := tabO []
noncomputable def o87 (P : Params) : Obj := tpO [(sv "place" 304), (sv "found" 305), (sv "left" 306), (sv "here" 307)] 0
noncomputable def o88 (P : Params) : Obj := tpO [] 0
noncomputable def o89 (P : Params) : Obj := fnO (st 12) .none "place_names" "place_names" 0 .none .none .none
noncomputable def o90 (P : Params) : Obj := fldO "code" [(sv "place_names" 301), (sv "place_names" 302), (sv "/claim/cut.py" 303), (.int 24 0), (.int 1 0), (.int 0 0), (.int 0 0), (.int 3 0), (.ref 85), (.bool true), (.int 181 0), (.ref 86), .none, (.ref 87), (.ref 88), (.ref 89), (.int 308 0), (.int 24 0), (sv "/claim/cut.py" 309)]
noncomputable def o91 (P : Params) : Obj := fnO (st 12) (.type "function") "place_names" "place_names" 3 .none (sv "methodrows.binders" 275) (.ref 90)
noncomputable def o92 (P : Params) : Obj := tpO [] 0
noncomputable def o93 (P : Params) : Obj := tabO []
noncomputable def o94 (P : Params) : Obj := tpO [(sv "tree" 314), (sv "found" 315), (sv "part" 316)] 0
noncomputable def o95 (P : Params) : Obj := tpO [] 0
noncomputable def o96 (P : Params) : Obj := fnO (st 13) .none "declared_names" "declared_names" 0 .none .none .none
noncomputable def o97 (P : Params) : Obj := fldO "code" [(sv "declared_names" 311), (sv "declared_names" 312), (sv "/claim/cut.py" 313), (.int 35 0), (.int 1 0), (.int 0 0), (.int 0 0), (.int 3 0), (.ref 92), (.bool true), (.int 181 0), (.ref 93), .none, (.ref 94), (.ref 95), (.ref 96), (.int 317 0), (.int 35 0), (sv "/claim/cut.py" 318)]
noncomputable def o98 (P : Params) : Obj := fnO (st 13) (.type "function") "declared_names" "declared_names" 3 .none (sv "methodrows.binders" 275) (.ref 97)
noncomputable def o99 (P : Params) : Obj := tpO [] 0
noncomputable def o100 (P : Params) : Obj := tabO []
noncomputable def o101 (P : Params) : Obj := fnO (st 14) .none "own_names" "own_names" 0 .none .none .none
noncomputable def o102 (P : Params) : Obj := fldO "code" [(sv "own_names" 320), (sv "own_names" 321), (sv "/claim/cut.py" 322), (.int 40 0), (.int 1 0), (.int 0 0), (.int 0 0), (.int 3 0), (.ref 99), (.bool true), (.int 181 0), (.ref 100), .none, .none, .none, (.ref 101), (.int 323 0), (.int 40 0), (sv "/claim/cut.py" 324)]
noncomputable def o103 (P : Params) : Obj := fnO (st 14) (.type "function") "own_names" "own_names" 3 .none (sv "methodrows.binders" 275) (.ref 102)
noncomputable def o104 (P : Params) : Obj := tpO [] 0
noncomputable def o105 (P : Params) : Obj := tabO []
noncomputable def o106 (P : Params) : Obj := tpO [(sv "argument" 329)] 0
noncomputable def o107 (P : Params) : Obj := tpO [] 0
noncomputable def o108 (P : Params) : Obj := fnO (st 15) .none "argument_names" "argument_names" 0 .none .none .none
noncomputable def o109 (P : Params) : Obj := fldO "code" [(sv "argument_names" 326), (sv "argument_names" 327), (sv "/claim/cut.py" 328), (.int 56 0), (.int 1 0), (.int 0 0), (.int 0 0), (.int 3 0), (.ref 104), (.bool true), (.int 181 0), (.ref 105), .none, (.ref 106), (.ref 107), (.ref 108), (.int 330 0), (.int 56 0), (sv "/claim/cut.py" 331)]
noncomputable def o110 (P : Params) : Obj := fnO (st 15) (.type "function") "argument_names" "argument_names" 3 .none (sv "methodrows.binders" 275) (.ref 109)
noncomputable def o111 (P : Params) : Obj := tpO [] 0
noncomputable def o112 (P : Params) : Obj := tabO []
noncomputable def o113 (P : Params) : Obj := tpO [(sv "head" 336)] 0
noncomputable def o114 (P : Params) : Obj := tpO [] 0
noncomputable def o115 (P : Params) : Obj := fnO (st 16) .none "head_call" "head_call" 0 .none .none .none
noncomputable def o116 (P : Params) : Obj := fldO "code" [(sv "head_call" 333), (sv "head_call" 334), (sv "/claim/cut.py" 335), (.int 60 0), (.int 1 0), (.int 0 0), (.int 0 0), (.int 3 0), (.ref 111), (.bool true), (.int 181 0), (.ref 112), .none, (.ref 113), (.ref 114), (.ref 115), (.int 337 0), (.int 60 0), (sv "/claim/cut.py" 338)]
noncomputable def o117 (P : Params) : Obj := fnO (st 16) (.type "function") "head_call" "head_call" 3 .none (sv "methodrows.binders" 275) (.ref 116)
noncomputable def o118 (P : Params) : Obj := tpO [] 0
noncomputable def o119 (P : Params) : Obj := tabO []
noncomputable def o120 (P : Params) : Obj := tpO [(sv "head" 343), (sv "inner" 344), (sv "arguments" 345), (sv "found" 346), (sv "argument" 347)] 0
noncomputable def o121 (P : Params) : Obj := tpO [] 0
noncomputable def o122 (P : Params) : Obj := fnO (st 17) .none "head_names" "head_names" 0 .none .none .none
noncomputable def o123 (P : Params) : Obj := fldO "code" [(sv "head_names" 340), (sv "head_names" 341), (sv "/claim/cut.py" 342), (.int 64 0), (.int 1 0), (.int 0 0), (.int 0 0), (.int 3 0), (.ref 118), (.bool true), (.int 181 0), (.ref 119), .none, (.ref 120), (.ref 121), (.ref 122), (.int 348 0), (.int 64 0), (sv "/claim/cut.py" 349)]
noncomputable def o124 (P : Params) : Obj := fnO (st 17) (.type "function") "head_names" "head_names" 3 .none (sv "methodrows.binders" 275) (.ref 123)
noncomputable def o125 (P : Params) : Obj := tpO [] 0
noncomputable def o126 (P : Params) : Obj := tabO []
noncomputable def o127 (P : Params) : Obj := tpO [(sv "head" 354), (sv "found" 355), (sv "argument" 356), (sv "keyword" 357)] 0
noncomputable def o128 (P : Params) : Obj := tpO [] 0
noncomputable def o129 (P : Params) : Obj := fnO (st 18) .none "keyword_names" "keyword_names" 0 .none .none .none
noncomputable def o130 (P : Params) : Obj := fldO "code" [(sv "keyword_names" 351), (sv "keyword_names" 352), (sv "/claim/cut.py" 353), (.int 78 0), (.int 1 0), (.int 0 0), (.int 0 0), (.int 3 0), (.ref 125), (.bool true), (.int 181 0), (.ref 126), .none, (.ref 127), (.ref 128), (.ref 129), (.int 358 0), (.int 78 0), (sv "/claim/cut.py" 359)]
noncomputable def o131 (P : Params) : Obj := fnO (st 18) (.type "function") "keyword_names" "keyword_names" 3 .none (sv "methodrows.binders" 275) (.ref 130)
noncomputable def o132 (P : Params) : Obj := tpO [] 0
noncomputable def o133 (P : Params) : Obj := tabO []
noncomputable def o134 (P : Params) : Obj := tpO [(sv "head" 364), (sv "found" 365), (sv "var" 366)] 0
noncomputable def o135 (P : Params) : Obj := tpO [] 0
noncomputable def o136 (P : Params) : Obj := fnO (st 19) .none "where_names" "where_names" 0 .none .none .none
noncomputable def o137 (P : Params) : Obj := fldO "code" [(sv "where_names" 361), (sv "where_names" 362), (sv "/claim/cut.py" 363), (.int 85 0), (.int 1 0), (.int 0 0), (.int 0 0), (.int 3 0), (.ref 132), (.bool true), (.int 181 0), (.ref 133), .none, (.ref 134), (.ref 135), (.ref 136), (.int 367 0), (.int 85 0), (sv "/claim/cut.py" 368)]
noncomputable def o138 (P : Params) : Obj := fnO (st 19) (.type "function") "where_names" "where_names" 3 .none (sv "methodrows.binders" 275) (.ref 137)
noncomputable def o139 (P : Params) : Obj := tpO [] 0
noncomputable def o140 (P : Params) : Obj := fldO "builtin_function_or_method" [(.builtin "type.__prepare__"), (.type "type")]
noncomputable def o141 (P : Params) : Obj := dctO P (.type "dict") [("__module__", 381, (sv "methodrows.hygiene" 370)), ("__qualname__", 383, (sv "NameSupply" 382)), ("__firstlineno__", 385, (.int 96 384)), ("__init__", 392, (.ref 152)), ("next", 400, (.ref 159)), ("__static_attributes__", 402, (.ref 160))] 6
noncomputable def o142 (P : Params) : Obj := tpO [] 0
noncomputable def o143 (P : Params) : Obj := tabO [(.int 98 0), (.int 4 0), (.ref 151), (.int 101 0), (.int 4 0), (.ref 158)]
noncomputable def o144 (P : Params) : Obj := fldO "code" [(sv "NameSupply" 376), (sv "NameSupply" 377), (sv "/claim/cut.py" 378), (.int 96 0), (.int 0 0), (.int 0 0), (.int 0 0), (.int 0 0), (.ref 142), (.bool false), (.int 181 0), (.ref 143), .none, .none, .none, .none, (.int 379 0), (.int 96 0), (sv "/claim/cut.py" 380)]
noncomputable def o145 (P : Params) : Obj := { cls := (.type "frame"), slots := #[some (.ref 144), some (.ref 3), some (.ref 141), none, some (sv "methodrows.hygiene" 370), none, some (.ref 0)] }
noncomputable def o146 (P : Params) : Obj := tpO [] 0
noncomputable def o147 (P : Params) : Obj := tabO []
noncomputable def o148 (P : Params) : Obj := tpO [(sv "self" 389)] 0
noncomputable def o149 (P : Params) : Obj := tpO [] 0
noncomputable def o150 (P : Params) : Obj := fnO (mt 22 0) .none "__init__" "NameSupply.__init__" 0 .none .none .none
noncomputable def o151 (P : Params) : Obj := fldO "code" [(sv "__init__" 386), (sv "NameSupply.__init__" 387), (sv "/claim/cut.py" 388), (.int 98 0), (.int 1 0), (.int 0 0), (.int 0 0), (.int 3 0), (.ref 146), (.bool true), (.int 181 0), (.ref 147), .none, (.ref 148), (.ref 149), (.ref 150), (.int 390 0), (.int 98 0), (sv "/claim/cut.py" 391)]
noncomputable def o152 (P : Params) : Obj := fnO (mt 22 0) (.type "function") "__init__" "NameSupply.__init__" 3 .none (sv "methodrows.hygiene" 370) (.ref 151)
noncomputable def o153 (P : Params) : Obj := tpO [] 0
noncomputable def o154 (P : Params) : Obj := tabO []
noncomputable def o155 (P : Params) : Obj := tpO [(sv "self" 396), (sv "base" 397)] 0
noncomputable def o156 (P : Params) : Obj := tpO [] 0
noncomputable def o157 (P : Params) : Obj := fnO (mt 22 1) .none "next" "NameSupply.next" 0 .none .none .none
noncomputable def o158 (P : Params) : Obj := fldO "code" [(sv "next" 393), (sv "NameSupply.next" 394), (sv "/claim/cut.py" 395), (.int 101 0), (.int 2 0), (.int 0 0), (.int 0 0), (.int 3 0), (.ref 153), (.bool true), (.int 181 0), (.ref 154), .none, (.ref 155), (.ref 156), (.ref 157), (.int 398 0), (.int 101 0), (sv "/claim/cut.py" 399)]
noncomputable def o159 (P : Params) : Obj := fnO (mt 22 1) (.type "function") "next" "NameSupply.next" 3 .none (sv "methodrows.hygiene" 370) (.ref 158)
noncomputable def o160 (P : Params) : Obj := tpO [(sv "many" 401)] 0
noncomputable def o161 (P : Params) : Obj := dctO P (.type "dict") [("__module__", 381, (sv "methodrows.hygiene" 370)), ("__firstlineno__", 385, (.int 96 384)), ("__init__", 392, (.ref 152)), ("next", 400, (.ref 159)), ("__static_attributes__", 402, (.ref 160)), ("__dict__", 404, (.ref 163)), ("__weakref__", 406, (.ref 164)), ("__doc__", 407, .none)] 4
noncomputable def o162 (P : Params) : Obj := { cls := (.type "type"), data := .cls { name := (Str.ofString "NameSupply"), bases := [(.type "object")], mro := [(.ref 162), (.type "object")], ns := 161, qualname := (Str.ofString "NameSupply"), hasDict := true, slotNames := [], subclasses := [], abstract := false, collection := none, hasDel := false }, slots := #[none, none, some (sv "NameSupply" 374), some (sv "NameSupply" 382), some (.builtin "object.__new__"), some (.bool true)] }
noncomputable def o163 (P : Params) : Obj := fldO "getset_descriptor" [(sv "__dict__" 403), (.ref 162), (.builtin "function.__dict__"), (.builtin "function.__dict__#set")]
noncomputable def o164 (P : Params) : Obj := fldO "getset_descriptor" [(sv "__weakref__" 405), (.ref 162), (.builtin "ExceptionGroup.__weakref__"), .none]
noncomputable def o165 (P : Params) : Obj := fldO "super" [(.ref 162), (.ref 162), (.ref 162)]
noncomputable def o166 (P : Params) : Obj := fldO "builtin_function_or_method" [(.builtin "object.__init_subclass__"), (.ref 162)]
noncomputable def o167 (P : Params) : Obj := tpO [] 0
noncomputable def o168 (P : Params) : Obj := tabO []
noncomputable def o169 (P : Params) : Obj := tpO [(sv "tree" 413), (sv "tasks" 414), (sv "done" 415), (sv "is_ready" 416), (sv "node" 417), (sv "many" 418), (sv "kids" 419), (sv "part" 420)] 0
noncomputable def o170 (P : Params) : Obj := tpO [] 0
noncomputable def o171 (P : Params) : Obj := fnO (st 23) .none "bare" "bare" 0 .none .none .none
noncomputable def o172 (P : Params) : Obj := fldO "code" [(sv "bare" 410), (sv "bare" 411), (sv "/claim/cut.py" 412), (.int 104 0), (.int 1 0), (.int 0 0), (.int 0 0), (.int 3 0), (.ref 167), (.bool true), (.int 181 0), (.ref 168), .none, (.ref 169), (.ref 170), (.ref 171), (.int 421 0), (.int 104 0), (sv "/claim/cut.py" 422)]
noncomputable def o173 (P : Params) : Obj := fnO (st 23) (.type "function") "bare" "bare" 3 .none (sv "methodrows.hygiene" 370) (.ref 172)
noncomputable def o174 (P : Params) : Obj := tpO [] 0
noncomputable def o175 (P : Params) : Obj := fldO "builtin_function_or_method" [(.builtin "type.__prepare__"), (.type "type")]
noncomputable def o176 (P : Params) : Obj := dctO P (.type "dict") [("__module__", 431, (sv "methodrows.hygiene" 370)), ("__qualname__", 433, (sv "Renamer" 432)), ("__firstlineno__", 435, (.int 122 434)), ("__init__", 443, (.ref 187)), ("fresh", 454, (.ref 194)), ("opened", 468, (.ref 201)), ("body", 478, (.ref 208)), ("all_of", 484, (.ref 213)), ("of", 496, (.ref 220)), ("named", 502, (.ref 225)), ("kept", 512, (.ref 232)), ("function", 526, (.ref 239)), ("head", 532, (.ref 244)), ("argument", 542, (.ref 251)), ("scope", 558, (.ref 258)), ("let", 572, (.ref 265)), ("tried", 578, (.ref 270)), ("gathered", 592, (.ref 277)), ("__static_attributes__", 594, (.ref 278))] 19
noncomputable def o177 (P : Params) : Obj := tpO [] 0
noncomputable def o178 (P : Params) : Obj := tabO [(.int 124 0), (.int 4 0), (.ref 186), (.int 127 0), (.int 4 0), (.ref 193), (.int 133 0), (.int 4 0), (.ref 200), (.int 144 0), (.int 4 0), (.ref 207), (.int 147 0), (.int 4 0), (.ref 212), (.int 150 0), (.int 4 0), (.ref 219), (.int 170 0), (.int 4 0), (.ref 224), (.int 176 0), (.int 4 0), (.ref 231), (.int 179 0), (.int 4 0), (.ref 238), (.int 186 0), (.int 4 0), (.ref 243), (.int 200 0), (.int 4 0), (.ref 250), (.int 205 0), (.int 4 0), (.ref 257), (.int 220 0), (.int 4 0), (.ref 264), (.int 232 0), (.int 4 0), (.ref 269), (.int 237 0), (.int 4 0), (.ref 276)]
noncomputable def o179 (P : Params) : Obj := fldO "code" [(sv "Renamer" 426), (sv "Renamer" 427), (sv "/claim/cut.py" 428), (.int 122 0), (.int 0 0), (.int 0 0), (.int 0 0), (.int 0 0), (.ref 177), (.bool false), (.int 181 0), (.ref 178), .none, .none, .none, .none, (.int 429 0), (.int 122 0), (sv "/claim/cut.py" 430)]
noncomputable def o180 (P : Params) : Obj := { cls := (.type "frame"), slots := #[some (.ref 179), some (.ref 3), some (.ref 176), none, some (sv "methodrows.hygiene" 370), none, some (.ref 0)] }
noncomputable def o181 (P : Params) : Obj := tpO [] 0
noncomputable def o182 (P : Params) : Obj := tabO []
noncomputable def o183 (P : Params) : Obj := tpO [(sv "self" 439), (sv "supply" 440)] 0
noncomputable def o184 (P : Params) : Obj := tpO [] 0
noncomputable def o185 (P : Params) : Obj := fnO (mt 24 0) .none "__init__" "Renamer.__init__" 0 .none .none .none
noncomputable def o186 (P : Params) : Obj := fldO "code" [(sv "__init__" 436), (sv "Renamer.__init__" 437), (sv "/claim/cut.py" 438), (.int 124 0), (.int 2 0), (.int 0 0), (.int 0 0), (.int 3 0), (.ref 181), (.bool true), (.int 181 0), (.ref 182), .none, (.ref 183), (.ref 184), (.ref 185), (.int 441 0), (.int 124 0), (sv "/claim/cut.py" 442)]
noncomputable def o187 (P : Params) : Obj := fnO (mt 24 0) (.type "function") "__init__" "Renamer.__init__" 3 .none (sv "methodrows.hygiene" 370) (.ref 186)
noncomputable def o188 (P : Params) : Obj := tpO [] 0
noncomputable def o189 (P : Params) : Obj := tabO []
noncomputable def o190 (P : Params) : Obj := tpO [(sv "self" 447), (sv "env" 448), (sv "names" 449), (sv "found" 450), (sv "name" 451)] 0
noncomputable def o191 (P : Params) : Obj := tpO [] 0
noncomputable def o192 (P : Params) : Obj := fnO (mt 24 1) .none "fresh" "Renamer.fresh" 0 .none .none .none
noncomputable def o193 (P : Params) : Obj := fldO "code" [(sv "fresh" 444), (sv "Renamer.fresh" 445), (sv "/claim/cut.py" 446), (.int 127 0), (.int 3 0), (.int 0 0), (.int 0 0), (.int 3 0), (.ref 188), (.bool true), (.int 181 0), (.ref 189), .none, (.ref 190), (.ref 191), (.ref 192), (.int 452 0), (.int 127 0), (sv "/claim/cut.py" 453)]
noncomputable def o194 (P : Params) : Obj := fnO (mt 24 1) (.type "function") "fresh" "Renamer.fresh" 3 .none (sv "methodrows.hygiene" 370) (.ref 193)
noncomputable def o195 (P : Params) : Obj := tpO [] 0
noncomputable def o196 (P : Params) : Obj := tabO []
noncomputable def o197 (P : Params) : Obj := tpO [(sv "self" 458), (sv "env" 459), (sv "trees" 460), (sv "bound" 461), (sv "told_global" 462), (sv "fresh" 463), (sv "name" 464), (sv "found" 465)] 0
noncomputable def o198 (P : Params) : Obj := tpO [] 0
noncomputable def o199 (P : Params) : Obj := fnO (mt 24 2) .none "opened" "Renamer.opened" 0 .none .none .none
noncomputable def o200 (P : Params) : Obj := fldO "code" [(sv "opened" 455), (sv "Renamer.opened" 456), (sv "/claim/cut.py" 457), (.int 133 0), (.int 3 0), (.int 0 0), (.int 0 0), (.int 3 0), (.ref 195), (.bool true), (.int 181 0), (.ref 196), .none, (.ref 197), (.ref 198), (.ref 199), (.int 466 0), (.int 133 0), (sv "/claim/cut.py" 467)]
noncomputable def o201 (P : Params) : Obj := fnO (mt 24 2) (.type "function") "opened" "Renamer.opened" 3 .none (sv "methodrows.hygiene" 370) (.ref 200)
noncomputable def o202 (P : Params) : Obj := tpO [] 0
noncomputable def o203 (P : Params) : Obj := tabO []
noncomputable def o204 (P : Params) : Obj := tpO [(sv "self" 472), (sv "env" 473), (sv "tree" 474), (sv "deep" 475)] 0
noncomputable def o205 (P : Params) : Obj := tpO [] 0
noncomputable def o206 (P : Params) : Obj := fnO (mt 24 3) .none "body" "Renamer.body" 0 .none .none .none
noncomputable def o207 (P : Params) : Obj := fldO "code" [(sv "body" 469), (sv "Renamer.body" 470), (sv "/claim/cut.py" 471), (.int 144 0), (.int 4 0), (.int 0 0), (.int 0 0), (.int 3 0), (.ref 202), (.bool true), (.int 181 0), (.ref 203), .none, (.ref 204), (.ref 205), (.ref 206), (.int 476 0), (.int 144 0), (sv "/claim/cut.py" 477)]
noncomputable def o208 (P : Params) : Obj := fnO (mt 24 3) (.type "function") "body" "Renamer.body" 3 .none (sv "methodrows.hygiene" 370) (.ref 207)
noncomputable def o209 (P : Params) : Obj := tpO [] 0
noncomputable def o210 (P : Params) : Obj := tabO []
noncomputable def o211 (P : Params) : Obj := fnO (mt 24 4) .none "all_of" "Renamer.all_of" 0 .none .none .none
noncomputable def o212 (P : Params) : Obj := fldO "code" [(sv "all_of" 479), (sv "Renamer.all_of" 480), (sv "/claim/cut.py" 481), (.int 147 0), (.int 4 0), (.int 0 0), (.int 0 0), (.int 3 0), (.ref 209), (.bool true), (.int 181 0), (.ref 210), .none, .none, .none, (.ref 211), (.int 482 0), (.int 147 0), (sv "/claim/cut.py" 483)]
noncomputable def o213 (P : Params) : Obj := fnO (mt 24 4) (.type "function") "all_of" "Renamer.all_of" 3 .none (sv "methodrows.hygiene" 370) (.ref 212)
noncomputable def o214 (P : Params) : Obj := tpO [] 0
noncomputable def o215 (P : Params) : Obj := tabO []
noncomputable def o216 (P : Params) : Obj := tpO [(sv "self" 488), (sv "env" 489), (sv "tree" 490), (sv "deep" 491), (sv "head" 492), (sv "parts" 493)] 0
noncomputable def o217 (P : Params) : Obj := tpO [] 0
noncomputable def o218 (P : Params) : Obj := fnO (mt 24 5) .none "of" "Renamer.of" 0 .none .none .none
noncomputable def o219 (P : Params) : Obj := fldO "code" [(sv "of" 485), (sv "Renamer.of" 486), (sv "/claim/cut.py" 487), (.int 150 0), (.int 4 0), (.int 0 0), (.int 0 0), (.int 3 0), (.ref 214), (.bool true), (.int 181 0), (.ref 215), .none, (.ref 216), (.ref 217), (.ref 218), (.int 494 0), (.int 150 0), (sv "/claim/cut.py" 495)]
noncomputable def o220 (P : Params) : Obj := fnO (mt 24 5) (.type "function") "of" "Renamer.of" 3 .none (sv "methodrows.hygiene" 370) (.ref 219)
noncomputable def o221 (P : Params) : Obj := tpO [] 0
noncomputable def o222 (P : Params) : Obj := tabO []
noncomputable def o223 (P : Params) : Obj := fnO (mt 24 6) .none "named" "Renamer.named" 0 .none .none .none
noncomputable def o224 (P : Params) : Obj := fldO "code" [(sv "named" 497), (sv "Renamer.named" 498), (sv "/claim/cut.py" 499), (.int 170 0), (.int 4 0), (.int 0 0), (.int 0 0), (.int 3 0), (.ref 221), (.bool true), (.int 181 0), (.ref 222), .none, .none, .none, (.ref 223), (.int 500 0), (.int 170 0), (sv "/claim/cut.py" 501)]
noncomputable def o225 (P : Params) : Obj := fnO (mt 24 6) (.type "function") "named" "Renamer.named" 3 .none (sv "methodrows.hygiene" 370) (.ref 224)
noncomputable def o226 (P : Params) : Obj := tpO [] 0
noncomputable def o227 (P : Params) : Obj := tabO []
noncomputable def o228 (P : Params) : Obj := tpO [(sv "self" 506), (sv "env" 507), (sv "tree" 508), (sv "deep" 509)] 0
noncomputable def o229 (P : Params) : Obj := tpO [] 0
noncomputable def o230 (P : Params) : Obj := fnO (mt 24 7) .none "kept" "Renamer.kept" 0 .none .none .none
noncomputable def o231 (P : Params) : Obj := fldO "code" [(sv "kept" 503), (sv "Renamer.kept" 504), (sv "/claim/cut.py" 505), (.int 176 0), (.int 4 0), (.int 0 0), (.int 0 0), (.int 3 0), (.ref 226), (.bool true), (.int 181 0), (.ref 227), .none, (.ref 228), (.ref 229), (.ref 230), (.int 510 0), (.int 176 0), (sv "/claim/cut.py" 511)]
noncomputable def o232 (P : Params) : Obj := fnO (mt 24 7) (.type "function") "kept" "Renamer.kept" 3 .none (sv "methodrows.hygiene" 370) (.ref 231)
noncomputable def o233 (P : Params) : Obj := tpO [] 0
noncomputable def o234 (P : Params) : Obj := tabO []
noncomputable def o235 (P : Params) : Obj := tpO [(sv "self" 516), (sv "env" 517), (sv "tree" 518), (sv "deep" 519), (sv "head" 520), (sv "body" 521), (sv "own" 522), (sv "name" 523)] 0
noncomputable def o236 (P : Params) : Obj := tpO [] 0
noncomputable def o237 (P : Params) : Obj := fnO (mt 24 8) .none "function" "Renamer.function" 0 .none .none .none
noncomputable def o238 (P : Params) : Obj := fldO "code" [(sv "function" 513), (sv "Renamer.function" 514), (sv "/claim/cut.py" 515), (.int 179 0), (.int 4 0), (.int 0 0), (.int 0 0), (.int 3 0), (.ref 233), (.bool true), (.int 181 0), (.ref 234), .none, (.ref 235), (.ref 236), (.ref 237), (.int 524 0), (.int 179 0), (sv "/claim/cut.py" 525)]
noncomputable def o239 (P : Params) : Obj := fnO (mt 24 8) (.type "function") "function" "Renamer.function" 3 .none (sv "methodrows.hygiene" 370) (.ref 238)
noncomputable def o240 (P : Params) : Obj := tpO [] 0
noncomputable def o241 (P : Params) : Obj := tabO []
noncomputable def o242 (P : Params) : Obj := fnO (mt 24 9) .none "head" "Renamer.head" 0 .none .none .none
noncomputable def o243 (P : Params) : Obj := fldO "code" [(sv "head" 527), (sv "Renamer.head" 528), (sv "/claim/cut.py" 529), (.int 186 0), (.int 5 0), (.int 0 0), (.int 0 0), (.int 3 0), (.ref 240), (.bool true), (.int 181 0), (.ref 241), .none, .none, .none, (.ref 242), (.int 530 0), (.int 186 0), (sv "/claim/cut.py" 531)]
noncomputable def o244 (P : Params) : Obj := fnO (mt 24 9) (.type "function") "head" "Renamer.head" 3 .none (sv "methodrows.hygiene" 370) (.ref 243)
noncomputable def o245 (P : Params) : Obj := tpO [] 0
noncomputable def o246 (P : Params) : Obj := tabO []
noncomputable def o247 (P : Params) : Obj := tpO [(sv "self" 536), (sv "own" 537), (sv "tree" 538), (sv "deep" 539)] 0
noncomputable def o248 (P : Params) : Obj := tpO [] 0
noncomputable def o249 (P : Params) : Obj := fnO (mt 24 10) .none "argument" "Renamer.argument" 0 .none .none .none
noncomputable def o250 (P : Params) : Obj := fldO "code" [(sv "argument" 533), (sv "Renamer.argument" 534), (sv "/claim/cut.py" 535), (.int 200 0), (.int 4 0), (.int 0 0), (.int 0 0), (.int 3 0), (.ref 245), (.bool true), (.int 181 0), (.ref 246), .none, (.ref 247), (.ref 248), (.ref 249), (.int 540 0), (.int 200 0), (sv "/claim/cut.py" 541)]
noncomputable def o251 (P : Params) : Obj := fnO (mt 24 10) (.type "function") "argument" "Renamer.argument" 3 .none (sv "methodrows.hygiene" 370) (.ref 250)
noncomputable def o252 (P : Params) : Obj := tpO [] 0
noncomputable def o253 (P : Params) : Obj := tabO []
noncomputable def o254 (P : Params) : Obj := tpO [(sv "self" 546), (sv "env" 547), (sv "tree" 548), (sv "deep" 549), (sv "head" 550), (sv "parts" 551), (sv "pattern" 552), (sv "iterable" 553), (sv "own" 554), (sv "turn" 555)] 0
noncomputable def o255 (P : Params) : Obj := tpO [] 0
noncomputable def o256 (P : Params) : Obj := fnO (mt 24 11) .none "scope" "Renamer.scope" 0 .none .none .none
noncomputable def o257 (P : Params) : Obj := fldO "code" [(sv "scope" 543), (sv "Renamer.scope" 544), (sv "/claim/cut.py" 545), (.int 205 0), (.int 4 0), (.int 0 0), (.int 0 0), (.int 3 0), (.ref 252), (.bool true), (.int 181 0), (.ref 253), .none, (.ref 254), (.ref 255), (.ref 256), (.int 556 0), (.int 205 0), (sv "/claim/cut.py" 557)]
noncomputable def o258 (P : Params) : Obj := fnO (mt 24 11) (.type "function") "scope" "Renamer.scope" 3 .none (sv "methodrows.hygiene" 370) (.ref 257)
noncomputable def o259 (P : Params) : Obj := tpO [] 0
noncomputable def o260 (P : Params) : Obj := tabO []
noncomputable def o261 (P : Params) : Obj := tpO [(sv "self" 562), (sv "env" 563), (sv "parts" 564), (sv "deep" 565), (sv "own" 566), (sv "rows" 567), (sv "row" 568), (sv "worth" 569)] 0
noncomputable def o262 (P : Params) : Obj := tpO [] 0
noncomputable def o263 (P : Params) : Obj := fnO (mt 24 12) .none "let" "Renamer.let" 0 .none .none .none
noncomputable def o264 (P : Params) : Obj := fldO "code" [(sv "let" 559), (sv "Renamer.let" 560), (sv "/claim/cut.py" 561), (.int 220 0), (.int 4 0), (.int 0 0), (.int 0 0), (.int 3 0), (.ref 259), (.bool true), (.int 181 0), (.ref 260), .none, (.ref 261), (.ref 262), (.ref 263), (.int 570 0), (.int 220 0), (sv "/claim/cut.py" 571)]
noncomputable def o265 (P : Params) : Obj := fnO (mt 24 12) (.type "function") "let" "Renamer.let" 3 .none (sv "methodrows.hygiene" 370) (.ref 264)
noncomputable def o266 (P : Params) : Obj := tpO [] 0
noncomputable def o267 (P : Params) : Obj := tabO []
noncomputable def o268 (P : Params) : Obj := fnO (mt 24 13) .none "tried" "Renamer.tried" 0 .none .none .none
noncomputable def o269 (P : Params) : Obj := fldO "code" [(sv "tried" 573), (sv "Renamer.tried" 574), (sv "/claim/cut.py" 575), (.int 232 0), (.int 4 0), (.int 0 0), (.int 0 0), (.int 3 0), (.ref 266), (.bool true), (.int 181 0), (.ref 267), .none, .none, .none, (.ref 268), (.int 576 0), (.int 232 0), (sv "/claim/cut.py" 577)]
noncomputable def o270 (P : Params) : Obj := fnO (mt 24 13) (.type "function") "tried" "Renamer.tried" 3 .none (sv "methodrows.hygiene" 370) (.ref 269)
noncomputable def o271 (P : Params) : Obj := tpO [] 0
noncomputable def o272 (P : Params) : Obj := tabO []
noncomputable def o273 (P : Params) : Obj := tpO [(sv "self" 582), (sv "env" 583), (sv "tree" 584), (sv "deep" 585), (sv "own" 586), (sv "rows" 587), (sv "row" 588), (sv "iterable" 589)] 0
noncomputable def o274 (P : Params) : Obj := tpO [] 0
noncomputable def o275 (P : Params) : Obj := fnO (mt 24 14) .none "gathered" "Renamer.gathered" 0 .none .none .none
noncomputable def o276 (P : Params) : Obj := fldO "code" [(sv "gathered" 579), (sv "Renamer.gathered" 580), (sv "/claim/cut.py" 581), (.int 237 0), (.int 4 0), (.int 0 0), (.int 0 0), (.int 3 0), (.ref 271), (.bool true), (.int 181 0), (.ref 272), .none, (.ref 273), (.ref 274), (.ref 275), (.int 590 0), (.int 237 0), (sv "/claim/cut.py" 591)]
noncomputable def o277 (P : Params) : Obj := fnO (mt 24 14) (.type "function") "gathered" "Renamer.gathered" 3 .none (sv "methodrows.hygiene" 370) (.ref 276)
noncomputable def o278 (P : Params) : Obj := tpO [(sv "supply" 593)] 0
noncomputable def o279 (P : Params) : Obj := dctO P (.type "dict") [("__module__", 431, (sv "methodrows.hygiene" 370)), ("__firstlineno__", 435, (.int 122 434)), ("__init__", 443, (.ref 187)), ("fresh", 454, (.ref 194)), ("opened", 468, (.ref 201)), ("body", 478, (.ref 208)), ("all_of", 484, (.ref 213)), ("of", 496, (.ref 220)), ("named", 502, (.ref 225)), ("kept", 512, (.ref 232)), ("function", 526, (.ref 239)), ("head", 532, (.ref 244)), ("argument", 542, (.ref 251)), ("scope", 558, (.ref 258)), ("let", 572, (.ref 265)), ("tried", 578, (.ref 270)), ("gathered", 592, (.ref 277)), ("__static_attributes__", 594, (.ref 278)), ("__dict__", 596, (.ref 281)), ("__weakref__", 598, (.ref 282)), ("__doc__", 599, .none)] 4
noncomputable def o280 (P : Params) : Obj := { cls := (.type "type"), data := .cls { name := (Str.ofString "Renamer"), bases := [(.type "object")], mro := [(.ref 280), (.type "object")], ns := 279, qualname := (Str.ofString "Renamer"), hasDict := true, slotNames := [], subclasses := [], abstract := false, collection := none, hasDel := false }, slots := #[none, none, some (sv "Renamer" 424), some (sv "Renamer" 432), some (.builtin "object.__new__"), some (.bool true)] }
noncomputable def o281 (P : Params) : Obj := fldO "getset_descriptor" [(sv "__dict__" 595), (.ref 280), (.builtin "function.__dict__"), (.builtin "function.__dict__#set")]
noncomputable def o282 (P : Params) : Obj := fldO "getset_descriptor" [(sv "__weakref__" 597), (.ref 280), (.builtin "ExceptionGroup.__weakref__"), .none]
noncomputable def o283 (P : Params) : Obj := fldO "super" [(.ref 280), (.ref 280), (.ref 280)]
noncomputable def o284 (P : Params) : Obj := fldO "builtin_function_or_method" [(.builtin "object.__init_subclass__"), (.ref 280)]
noncomputable def o285 (P : Params) : Obj := tpO [] 0
noncomputable def o286 (P : Params) : Obj := tabO []
noncomputable def o287 (P : Params) : Obj := tpO [(sv "tree" 605), (sv "supply" 606)] 0
noncomputable def o288 (P : Params) : Obj := tpO [] 0
noncomputable def o289 (P : Params) : Obj := fnO (st 25) .none "renamed_locals" "renamed_locals" 0 .none .none .none
noncomputable def o290 (P : Params) : Obj := fldO "code" [(sv "renamed_locals" 602), (sv "renamed_locals" 603), (sv "/claim/cut.py" 604), (.int 247 0), (.int 2 0), (.int 0 0), (.int 0 0), (.int 3 0), (.ref 285), (.bool true), (.int 181 0), (.ref 286), .none, (.ref 287), (.ref 288), (.ref 289), (.int 607 0), (.int 247 0), (sv "/claim/cut.py" 608)]
noncomputable def o291 (P : Params) : Obj := fnO (st 25) (.type "function") "renamed_locals" "renamed_locals" 3 .none (sv "methodrows.hygiene" 370) (.ref 290)
noncomputable def o292 (P : Params) : Obj := tpO [(sv "builtin" 613), (sv "make_expr" 614)] 0
noncomputable def o293 (P : Params) : Obj := tpO [(sv "value" 612), (.ref 292)] 0
noncomputable def o294 (P : Params) : Obj := tpO [] 0
noncomputable def o295 (P : Params) : Obj := tabO []
noncomputable def o296 (P : Params) : Obj := tpO [(sv "tree" 619)] 0
noncomputable def o297 (P : Params) : Obj := tpO [] 0
noncomputable def o298 (P : Params) : Obj := fnO (st 28) .none "plain_maker" "plain_maker" 0 .none .none .none
noncomputable def o299 (P : Params) : Obj := fldO "code" [(sv "plain_maker" 616), (sv "plain_maker" 617), (sv "/claim/cut.py" 618), (.int 251 0), (.int 1 0), (.int 0 0), (.int 0 0), (.int 3 0), (.ref 294), (.bool true), (.int 181 0), (.ref 295), .none, (.ref 296), (.ref 297), (.ref 298), (.int 620 0), (.int 251 0), (sv "/claim/cut.py" 621)]
noncomputable def o300 (P : Params) : Obj := fnO (st 28) (.type "function") "plain_maker" "plain_maker" 3 .none (sv "methodrows.quasi" 610) (.ref 299)
noncomputable def o301 (P : Params) : Obj := tpO [] 0
noncomputable def o302 (P : Params) : Obj := tabO []
noncomputable def o303 (P : Params) : Obj := tpO [(sv "tree" 626)] 0
noncomputable def o304 (P : Params) : Obj := tpO [] 0
noncomputable def o305 (P : Params) : Obj := fnO (st 29) .none "part_maker" "part_maker" 0 .none .none .none
noncomputable def o306 (P : Params) : Obj := fldO "code" [(sv "part_maker" 623), (sv "part_maker" 624), (sv "/claim/cut.py" 625), (.int 255 0), (.int 1 0), (.int 0 0), (.int 0 0), (.int 3 0), (.ref 301), (.bool true), (.int 181 0), (.ref 302), .none, (.ref 303), (.ref 304), (.ref 305), (.int 627 0), (.int 255 0), (sv "/claim/cut.py" 628)]
noncomputable def o307 (P : Params) : Obj := fnO (st 29) (.type "function") "part_maker" "part_maker" 3 .none (sv "methodrows.quasi" 610) (.ref 306)
noncomputable def o308 (P : Params) : Obj := tpO [] 0
noncomputable def o309 (P : Params) : Obj := tabO []
noncomputable def o310 (P : Params) : Obj := tpO [(sv "head" 633), (sv "depth" 634)] 0
noncomputable def o311 (P : Params) : Obj := tpO [] 0
noncomputable def o312 (P : Params) : Obj := fnO (st 30) .none "inner_depth" "inner_depth" 0 .none .none .none
noncomputable def o313 (P : Params) : Obj := fldO "code" [(sv "inner_depth" 630), (sv "inner_depth" 631), (sv "/claim/cut.py" 632), (.int 257 0), (.int 2 0), (.int 0 0), (.int 0 0), (.int 3 0), (.ref 308), (.bool true), (.int 181 0), (.ref 309), .none, (.ref 310), (.ref 311), (.ref 312), (.int 635 0), (.int 257 0), (sv "/claim/cut.py" 636)]
noncomputable def o314 (P : Params) : Obj := fnO (st 30) (.type "function") "inner_depth" "inner_depth" 3 .none (sv "methodrows.quasi" 610) (.ref 313)
noncomputable def o315 (P : Params) : Obj := tpO [] 0
noncomputable def o316 (P : Params) : Obj := tabO []
noncomputable def o317 (P : Params) : Obj := tpO [(sv "tree" 641)] 0
noncomputable def o318 (P : Params) : Obj := tpO [] 0
noncomputable def o319 (P : Params) : Obj := fnO (st 31) .none "put_in" "put_in" 0 .none .none .none
noncomputable def o320 (P : Params) : Obj := fldO "code" [(sv "put_in" 638), (sv "put_in" 639), (sv "/claim/cut.py" 640), (.int 261 0), (.int 1 0), (.int 0 0), (.int 0 0), (.int 3 0), (.ref 315), (.bool true), (.int 181 0), (.ref 316), .none, (.ref 317), (.ref 318), (.ref 319), (.int 642 0), (.int 261 0), (sv "/claim/cut.py" 643)]
noncomputable def o321 (P : Params) : Obj := fnO (st 31) (.type "function") "put_in" "put_in" 3 .none (sv "methodrows.quasi" 610) (.ref 320)
noncomputable def o322 (P : Params) : Obj := tpO [] 0
noncomputable def o323 (P : Params) : Obj := tabO []
noncomputable def o324 (P : Params) : Obj := fnO (st 32) .none "joined_parts" "joined_parts" 0 .none .none .none
noncomputable def o325 (P : Params) : Obj := fldO "code" [(sv "joined_parts" 645), (sv "joined_parts" 646), (sv "/claim/cut.py" 647), (.int 265 0), (.int 2 0), (.int 0 0), (.int 0 0), (.int 3 0), (.ref 322), (.bool true), (.int 181 0), (.ref 323), .none, .none, .none, (.ref 324), (.int 648 0), (.int 265 0), (sv "/claim/cut.py" 649)]
noncomputable def o326 (P : Params) : Obj := fnO (st 32) (.type "function") "joined_parts" "joined_parts" 3 .none (sv "methodrows.quasi" 610) (.ref 325)
noncomputable def o327 (P : Params) : Obj := tpO [] 0
noncomputable def o328 (P : Params) : Obj := tabO []
noncomputable def o329 (P : Params) : Obj := tpO [(sv "tree" 654), (sv "tasks" 655), (sv "done" 656), (sv "is_ready" 657), (sv "node" 658), (sv "depth" 659), (sv "many" 660), (sv "kids" 661), (sv "part" 662), (sv "is_plain" 663), (sv "found" 664)] 0
noncomputable def o330 (P : Params) : Obj := tpO [] 0
noncomputable def o331 (P : Params) : Obj := fnO (st 33) .none "quoted" "quoted" 0 .none .none .none
noncomputable def o332 (P : Params) : Obj := fldO "code" [(sv "quoted" 651), (sv "quoted" 652), (sv "/claim/cut.py" 653), (.int 270 0), (.int 1 0), (.int 0 0), (.int 0 0), (.int 3 0), (.ref 327), (.bool true), (.int 181 0), (.ref 328), .none, (.ref 329), (.ref 330), (.ref 331), (.int 665 0), (.int 270 0), (sv "/claim/cut.py" 666)]
noncomputable def o333 (P : Params) : Obj := fnO (st 33) (.type "function") "quoted" "quoted" 3 .none (sv "methodrows.quasi" 610) (.ref 332)
noncomputable def o334 (P : Params) : Obj := tpO [] 0
noncomputable def o335 (P : Params) : Obj := fldO "builtin_function_or_method" [(.builtin "type.__prepare__"), (.type "type")]
noncomputable def o336 (P : Params) : Obj := dctO P (.type "dict") [("__module__", 679, (sv "methodrows.expand" 668)), ("__qualname__", 681, (sv "Expander" 680)), ("__firstlineno__", 683, (.int 293 682)), ("__init__", 693, (.ref 347)), ("told", 703, (.ref 354)), ("settled", 711, (.ref 361)), ("run", 727, (.ref 368)), ("__static_attributes__", 731, (.ref 369))] 8
noncomputable def o337 (P : Params) : Obj := tpO [] 0
noncomputable def o338 (P : Params) : Obj := tabO [(.int 295 0), (.int 4 0), (.ref 346), (.int 300 0), (.int 4 0), (.ref 353), (.int 310 0), (.int 4 0), (.ref 360), (.int 320 0), (.int 4 0), (.ref 367)]
noncomputable def o339 (P : Params) : Obj := fldO "code" [(sv "Expander" 674), (sv "Expander" 675), (sv "/claim/cut.py" 676), (.int 293 0), (.int 0 0), (.int 0 0), (.int 0 0), (.int 0 0), (.ref 337), (.bool false), (.int 181 0), (.ref 338), .none, .none, .none, .none, (.int 677 0), (.int 293 0), (sv "/claim/cut.py" 678)]
noncomputable def o340 (P : Params) : Obj := { cls := (.type "frame"), slots := #[some (.ref 339), some (.ref 3), some (.ref 336), none, some (sv "methodrows.expand" 668), none, some (.ref 0)] }
noncomputable def o341 (P : Params) : Obj := tpO [] 0
noncomputable def o342 (P : Params) : Obj := tabO []
noncomputable def o343 (P : Params) : Obj := tpO [(sv "self" 687), (sv "macros" 688), (sv "supply" 689), (sv "fuel" 690)] 0
noncomputable def o344 (P : Params) : Obj := tpO [] 0
noncomputable def o345 (P : Params) : Obj := fnO (mt 36 0) .none "__init__" "Expander.__init__" 0 .none .none .none
noncomputable def o346 (P : Params) : Obj := fldO "code" [(sv "__init__" 684), (sv "Expander.__init__" 685), (sv "/claim/cut.py" 686), (.int 295 0), (.int 4 0), (.int 0 0), (.int 0 0), (.int 3 0), (.ref 341), (.bool true), (.int 181 0), (.ref 342), .none, (.ref 343), (.ref 344), (.ref 345), (.int 691 0), (.int 295 0), (sv "/claim/cut.py" 692)]
noncomputable def o347 (P : Params) : Obj := fnO (mt 36 0) (.type "function") "__init__" "Expander.__init__" 3 .none (sv "methodrows.expand" 668) (.ref 346)
noncomputable def o348 (P : Params) : Obj := tpO [] 0
noncomputable def o349 (P : Params) : Obj := tabO []
noncomputable def o350 (P : Params) : Obj := tpO [(sv "self" 697), (sv "call" 698), (sv "name" 699), (sv "deed" 700)] 0
noncomputable def o351 (P : Params) : Obj := tpO [] 0
noncomputable def o352 (P : Params) : Obj := fnO (mt 36 1) .none "told" "Expander.told" 0 .none .none .none
noncomputable def o353 (P : Params) : Obj := fldO "code" [(sv "told" 694), (sv "Expander.told" 695), (sv "/claim/cut.py" 696), (.int 300 0), (.int 2 0), (.int 0 0), (.int 0 0), (.int 3 0), (.ref 348), (.bool true), (.int 181 0), (.ref 349), .none, (.ref 350), (.ref 351), (.ref 352), (.int 701 0), (.int 300 0), (sv "/claim/cut.py" 702)]
noncomputable def o354 (P : Params) : Obj := fnO (mt 36 1) (.type "function") "told" "Expander.told" 3 .none (sv "methodrows.expand" 668) (.ref 353)
noncomputable def o355 (P : Params) : Obj := tpO [] 0
noncomputable def o356 (P : Params) : Obj := tabO []
noncomputable def o357 (P : Params) : Obj := tpO [(sv "self" 707), (sv "tree" 708)] 0
noncomputable def o358 (P : Params) : Obj := tpO [] 0
noncomputable def o359 (P : Params) : Obj := fnO (mt 36 2) .none "settled" "Expander.settled" 0 .none .none .none
noncomputable def o360 (P : Params) : Obj := fldO "code" [(sv "settled" 704), (sv "Expander.settled" 705), (sv "/claim/cut.py" 706), (.int 310 0), (.int 2 0), (.int 0 0), (.int 0 0), (.int 3 0), (.ref 355), (.bool true), (.int 181 0), (.ref 356), .none, (.ref 357), (.ref 358), (.ref 359), (.int 709 0), (.int 310 0), (sv "/claim/cut.py" 710)]
noncomputable def o361 (P : Params) : Obj := fnO (mt 36 2) (.type "function") "settled" "Expander.settled" 3 .none (sv "methodrows.expand" 668) (.ref 360)
noncomputable def o362 (P : Params) : Obj := tpO [] 0
noncomputable def o363 (P : Params) : Obj := tabO []
noncomputable def o364 (P : Params) : Obj := tpO [(sv "self" 715), (sv "tree" 716), (sv "tasks" 717), (sv "done" 718), (sv "is_ready" 719), (sv "node" 720), (sv "many" 721), (sv "kids" 722), (sv "here" 723), (sv "part" 724)] 0
noncomputable def o365 (P : Params) : Obj := tpO [] 0
noncomputable def o366 (P : Params) : Obj := fnO (mt 36 3) .none "run" "Expander.run" 0 .none .none .none
noncomputable def o367 (P : Params) : Obj := fldO "code" [(sv "run" 712), (sv "Expander.run" 713), (sv "/claim/cut.py" 714), (.int 320 0), (.int 2 0), (.int 0 0), (.int 0 0), (.int 3 0), (.ref 362), (.bool true), (.int 181 0), (.ref 363), .none, (.ref 364), (.ref 365), (.ref 366), (.int 725 0), (.int 320 0), (sv "/claim/cut.py" 726)]
noncomputable def o368 (P : Params) : Obj := fnO (mt 36 3) (.type "function") "run" "Expander.run" 3 .none (sv "methodrows.expand" 668) (.ref 367)
noncomputable def o369 (P : Params) : Obj := tpO [(sv "fuel" 728), (sv "macros" 729), (sv "supply" 730)] 0
noncomputable def o370 (P : Params) : Obj := dctO P (.type "dict") [("__module__", 679, (sv "methodrows.expand" 668)), ("__firstlineno__", 683, (.int 293 682)), ("__init__", 693, (.ref 347)), ("told", 703, (.ref 354)), ("settled", 711, (.ref 361)), ("run", 727, (.ref 368)), ("__static_attributes__", 731, (.ref 369)), ("__dict__", 733, (.ref 372)), ("__weakref__", 735, (.ref 373)), ("__doc__", 736, .none)] 4
noncomputable def o371 (P : Params) : Obj := { cls := (.type "type"), data := .cls { name := (Str.ofString "Expander"), bases := [(.type "object")], mro := [(.ref 371), (.type "object")], ns := 370, qualname := (Str.ofString "Expander"), hasDict := true, slotNames := [], subclasses := [], abstract := false, collection := none, hasDel := false }, slots := #[none, none, some (sv "Expander" 672), some (sv "Expander" 680), some (.builtin "object.__new__"), some (.bool true)] }
noncomputable def o372 (P : Params) : Obj := fldO "getset_descriptor" [(sv "__dict__" 732), (.ref 371), (.builtin "function.__dict__"), (.builtin "function.__dict__#set")]
noncomputable def o373 (P : Params) : Obj := fldO "getset_descriptor" [(sv "__weakref__" 734), (.ref 371), (.builtin "ExceptionGroup.__weakref__"), .none]
noncomputable def o374 (P : Params) : Obj := fldO "super" [(.ref 371), (.ref 371), (.ref 371)]
noncomputable def o375 (P : Params) : Obj := fldO "builtin_function_or_method" [(.builtin "object.__init_subclass__"), (.ref 371)]
noncomputable def o376 (P : Params) : Obj := tpO [(.int 2000 670)] 0
noncomputable def o377 (P : Params) : Obj := tpO [] 0
noncomputable def o378 (P : Params) : Obj := tabO []
noncomputable def o379 (P : Params) : Obj := tpO [(sv "tree" 742), (sv "macros" 743), (sv "supply" 744), (sv "fuel" 745)] 0
noncomputable def o380 (P : Params) : Obj := tpO [] 0
noncomputable def o381 (P : Params) : Obj := fnO (st 37) .none "expanded" "expanded" 0 .none .none .none
noncomputable def o382 (P : Params) : Obj := fldO "code" [(sv "expanded" 739), (sv "expanded" 740), (sv "/claim/cut.py" 741), (.int 338 0), (.int 4 0), (.int 0 0), (.int 0 0), (.int 3 0), (.ref 377), (.bool true), (.int 181 0), (.ref 378), .none, (.ref 379), (.ref 380), (.ref 381), (.int 746 0), (.int 338 0), (sv "/claim/cut.py" 747)]
noncomputable def o383 (P : Params) : Obj := fnO (st 37) (.type "function") "expanded" "expanded" 3 (.ref 376) (sv "methodrows.expand" 668) (.ref 382)
noncomputable def o384 (P : Params) : Obj := tpO [] 0
noncomputable def o385 (P : Params) : Obj := tabO []
noncomputable def o386 (P : Params) : Obj := tpO [(sv "script" 754), (sv "turn" 755), (sv "cell" 756), (sv "worth" 757)] 0
noncomputable def o387 (P : Params) : Obj := tpO [] 0
noncomputable def o388 (P : Params) : Obj := fnO (st 39) .none "_law_bag" "_law_bag" 0 .none .none .none
noncomputable def o389 (P : Params) : Obj := fldO "code" [(sv "_law_bag" 751), (sv "_law_bag" 752), (sv "/claim/cut.py" 753), (.int 341 0), (.int 2 0), (.int 0 0), (.int 0 0), (.int 3 0), (.ref 384), (.bool true), (.int 181 0), (.ref 385), .none, (.ref 386), (.ref 387), (.ref 388), (.int 758 0), (.int 341 0), (sv "/claim/cut.py" 759)]
noncomputable def o390 (P : Params) : Obj := fnO (st 39) (.type "function") "_law_bag" "_law_bag" 3 .none (sv "law_pc0210_01" 749) (.ref 389)
noncomputable def o391 (P : Params) : Obj := tpO [] 0
noncomputable def o392 (P : Params) : Obj := tabO []
noncomputable def o393 (P : Params) : Obj := tpO [(sv "bag" 764), (sv "many" 765), (sv "part" 766)] 0
noncomputable def o394 (P : Params) : Obj := tpO [] 0
noncomputable def o395 (P : Params) : Obj := fnO (st 40) .none "_law_pick" "_law_pick" 0 .none .none .none
noncomputable def o396 (P : Params) : Obj := fldO "code" [(sv "_law_pick" 761), (sv "_law_pick" 762), (sv "/claim/cut.py" 763), (.int 345 0), (.int 2 0), (.int 0 0), (.int 0 0), (.int 3 0), (.ref 391), (.bool true), (.int 181 0), (.ref 392), .none, (.ref 393), (.ref 394), (.ref 395), (.int 767 0), (.int 345 0), (sv "/claim/cut.py" 768)]
noncomputable def o397 (P : Params) : Obj := fnO (st 40) (.type "function") "_law_pick" "_law_pick" 3 .none (sv "law_pc0210_01" 749) (.ref 396)
noncomputable def o398 (P : Params) : Obj := tpO [] 0
noncomputable def o399 (P : Params) : Obj := tabO []
noncomputable def o400 (P : Params) : Obj := tpO [(sv "tree" 773)] 0
noncomputable def o401 (P : Params) : Obj := tpO [] 0
noncomputable def o402 (P : Params) : Obj := fnO (st 41) .none "_law_kept" "_law_kept" 0 .none .none .none
noncomputable def o403 (P : Params) : Obj := fldO "code" [(sv "_law_kept" 770), (sv "_law_kept" 771), (sv "/claim/cut.py" 772), (.int 352 0), (.int 1 0), (.int 0 0), (.int 0 0), (.int 3 0), (.ref 398), (.bool true), (.int 181 0), (.ref 399), .none, (.ref 400), (.ref 401), (.ref 402), (.int 774 0), (.int 352 0), (sv "/claim/cut.py" 775)]
noncomputable def o404 (P : Params) : Obj := fnO (st 41) (.type "function") "_law_kept" "_law_kept" 3 .none (sv "law_pc0210_01" 749) (.ref 403)
noncomputable def o405 (P : Params) : Obj := tpO [] 0
noncomputable def o406 (P : Params) : Obj := tabO []
noncomputable def o407 (P : Params) : Obj := tpO [] 0
noncomputable def o408 (P : Params) : Obj := tpO [] 0
noncomputable def o409 (P : Params) : Obj := fnO (st 42) .none "_law_macros" "_law_macros" 0 .none .none .none
noncomputable def o410 (P : Params) : Obj := fldO "code" [(sv "_law_macros" 777), (sv "_law_macros" 778), (sv "/claim/cut.py" 779), (.int 354 0), (.int 0 0), (.int 0 0), (.int 0 0), (.int 3 0), (.ref 405), (.bool true), (.int 181 0), (.ref 406), .none, (.ref 407), (.ref 408), (.ref 409), (.int 780 0), (.int 354 0), (sv "/claim/cut.py" 781)]
noncomputable def o411 (P : Params) : Obj := fnO (st 42) (.type "function") "_law_macros" "_law_macros" 3 .none (sv "law_pc0210_01" 749) (.ref 410)
noncomputable def o412 (P : Params) : Obj := tpO [] 0
noncomputable def o413 (P : Params) : Obj := tabO []
noncomputable def o414 (P : Params) : Obj := tpO [(sv "bag" 786), (sv "high" 787), (sv "way" 788), (sv "name" 789), (sv "things" 790)] 0
noncomputable def o415 (P : Params) : Obj := tpO [] 0
noncomputable def o416 (P : Params) : Obj := fnO (st 43) .none "_law_tree" "_law_tree" 0 .none .none .none
noncomputable def o417 (P : Params) : Obj := fldO "code" [(sv "_law_tree" 783), (sv "_law_tree" 784), (sv "/claim/cut.py" 785), (.int 362 0), (.int 2 0), (.int 0 0), (.int 0 0), (.int 3 0), (.ref 412), (.bool true), (.int 181 0), (.ref 413), .none, (.ref 414), (.ref 415), (.ref 416), (.int 791 0), (.int 362 0), (sv "/claim/cut.py" 792)]
noncomputable def o418 (P : Params) : Obj := fnO (st 43) (.type "function") "_law_tree" "_law_tree" 3 .none (sv "law_pc0210_01" 749) (.ref 417)
noncomputable def o419 (P : Params) : Obj := tpO [] 0
noncomputable def o420 (P : Params) : Obj := tabO []
noncomputable def o421 (P : Params) : Obj := tpO [(sv "tree" 797)] 0
noncomputable def o422 (P : Params) : Obj := tpO [] 0
noncomputable def o423 (P : Params) : Obj := fnO (st 44) .none "_law_constant" "_law_constant" 0 .none .none .none
noncomputable def o424 (P : Params) : Obj := fldO "code" [(sv "_law_constant" 794), (sv "_law_constant" 795), (sv "/claim/cut.py" 796), (.int 377 0), (.int 1 0), (.int 0 0), (.int 0 0), (.int 3 0), (.ref 419), (.bool true), (.int 181 0), (.ref 420), .none, (.ref 421), (.ref 422), (.ref 423), (.int 798 0), (.int 377 0), (sv "/claim/cut.py" 799)]
noncomputable def o425 (P : Params) : Obj := fnO (st 44) (.type "function") "_law_constant" "_law_constant" 3 .none (sv "law_pc0210_01" 749) (.ref 424)
noncomputable def o426 (P : Params) : Obj := tpO [] 0
noncomputable def o427 (P : Params) : Obj := tabO []
noncomputable def o428 (P : Params) : Obj := fnO (st 45) .none "_law_due" "_law_due" 0 .none .none .none
noncomputable def o429 (P : Params) : Obj := fldO "code" [(sv "_law_due" 801), (sv "_law_due" 802), (sv "/claim/cut.py" 803), (.int 381 0), (.int 2 0), (.int 0 0), (.int 0 0), (.int 3 0), (.ref 426), (.bool true), (.int 181 0), (.ref 427), .none, .none, .none, (.ref 428), (.int 804 0), (.int 381 0), (sv "/claim/cut.py" 805)]
noncomputable def o430 (P : Params) : Obj := fnO (st 45) (.type "function") "_law_due" "_law_due" 3 .none (sv "law_pc0210_01" 749) (.ref 429)
noncomputable def o431 (P : Params) : Obj := tpO [] 0
noncomputable def o432 (P : Params) : Obj := tabO []
noncomputable def o433 (P : Params) : Obj := fnO (st 46) .none "_law_is_clean" "_law_is_clean" 0 .none .none .none
noncomputable def o434 (P : Params) : Obj := fldO "code" [(sv "_law_is_clean" 807), (sv "_law_is_clean" 808), (sv "/claim/cut.py" 809), (.int 398 0), (.int 1 0), (.int 0 0), (.int 0 0), (.int 3 0), (.ref 431), (.bool true), (.int 181 0), (.ref 432), .none, .none, .none, (.ref 433), (.int 810 0), (.int 398 0), (sv "/claim/cut.py" 811)]
noncomputable def o435 (P : Params) : Obj := fnO (st 46) (.type "function") "_law_is_clean" "_law_is_clean" 3 .none (sv "law_pc0210_01" 749) (.ref 434)
noncomputable def o436 (P : Params) : Obj := tpO [] 0
noncomputable def o437 (P : Params) : Obj := tabO []
noncomputable def o438 (P : Params) : Obj := tpO [(sv "tree" 816), (sv "fuel" 817)] 0
noncomputable def o439 (P : Params) : Obj := tpO [] 0
noncomputable def o440 (P : Params) : Obj := fnO (st 47) .none "_law_refused" "_law_refused" 0 .none .none .none
noncomputable def o441 (P : Params) : Obj := fldO "code" [(sv "_law_refused" 813), (sv "_law_refused" 814), (sv "/claim/cut.py" 815), (.int 404 0), (.int 2 0), (.int 0 0), (.int 0 0), (.int 3 0), (.ref 436), (.bool true), (.int 181 0), (.ref 437), .none, (.ref 438), (.ref 439), (.ref 440), (.int 818 0), (.int 404 0), (sv "/claim/cut.py" 819)]
noncomputable def o442 (P : Params) : Obj := fnO (st 47) (.type "function") "_law_refused" "_law_refused" 3 .none (sv "law_pc0210_01" 749) (.ref 441)
noncomputable def o443 (P : Params) : Obj := tpO [] 0
noncomputable def o444 (P : Params) : Obj := tabO []
noncomputable def o445 (P : Params) : Obj := tpO [(sv "script" 824), (sv "tree" 825), (sv "chain" 826), (sv "turn" 827), (sv "bag" 828), (sv "met_here" 829), (sv "due" 830), (sv "told" 831)] 0
noncomputable def o446 (P : Params) : Obj := tpO [] 0
noncomputable def o447 (P : Params) : Obj := fnO (st 48) .none "law" "law" 0 .none .none .none
noncomputable def o448 (P : Params) : Obj := fldO "code" [(sv "law" 821), (sv "law" 822), (sv "/claim/cut.py" 823), (.int 410 0), (.int 1 0), (.int 0 0), (.int 0 0), (.int 3 0), (.ref 443), (.bool true), (.int 181 0), (.ref 444), .none, (.ref 445), (.ref 446), (.ref 447), (.int 832 0), (.int 410 0), (sv "/claim/cut.py" 833)]
noncomputable def o449 (P : Params) : Obj := fnO (st 48) (.type "function") "law" "law" 3 .none (sv "law_pc0210_01" 749) (.ref 448)
noncomputable def o3c12 (P : Params) : Obj := dctO P (.type "dict") [("__name__", 165, (sv "methodrows.binders" 275)), ("__doc__", 166, .none), ("__package__", 167, .none), ("__loader__", 168, (.builtin "__main__.__loader__#opaque")), ("__spec__", 169, .none), ("__annotations__", 170, (.ref 6)), ("__builtins__", 171, (.ref 4)), ("__file__", 173, (sv "/claim/cut.py" 172)), ("__cached__", 174, .none), ("RowsError", 219, (.ref 32)), ("MacroFault", 235, (.ref 45)), ("expr", 245, (.ref 54)), ("is_expr", 253, (.ref 61)), ("head_of", 260, (.ref 68)), ("parts_of", 267, (.ref 75)), ("is_sym", 274, (.ref 82)), ("OPENING", 292, (.ref 83)), ("CHANGING", 300, (.ref 84)), ("place_names", 310, (.ref 91))] 19
noncomputable def o12c12 (P : Params) : Obj := tabO [(.int 2 0), (.int 0 0), (.ref 20), (.int 8 0), (.int 0 0), (.ref 41), (.int 11 0), (.int 0 0), (.ref 53), (.int 13 0), (.int 0 0), (.ref 60), (.int 15 0), (.int 0 0), (.ref 67), (.int 17 0), (.int 0 0), (.ref 74), (.int 19 0), (.int 0 0), (.ref 81), (.int 24 0), (.int 0 0), (.ref 90)]
noncomputable def o3c23 (P : Params) : Obj := dctO P (.type "dict") [("__name__", 165, (sv "methodrows.hygiene" 370)), ("__doc__", 166, .none), ("__package__", 167, .none), ("__loader__", 168, (.builtin "__main__.__loader__#opaque")), ("__spec__", 169, .none), ("__annotations__", 170, (.ref 6)), ("__builtins__", 171, (.ref 4)), ("__file__", 173, (sv "/claim/cut.py" 172)), ("__cached__", 174, .none), ("RowsError", 219, (.ref 32)), ("MacroFault", 235, (.ref 45)), ("expr", 245, (.ref 54)), ("is_expr", 253, (.ref 61)), ("head_of", 260, (.ref 68)), ("parts_of", 267, (.ref 75)), ("is_sym", 274, (.ref 82)), ("OPENING", 292, (.ref 83)), ("CHANGING", 300, (.ref 84)), ("place_names", 310, (.ref 91)), ("declared_names", 319, (.ref 98)), ("own_names", 325, (.ref 103)), ("argument_names", 332, (.ref 110)), ("head_call", 339, (.ref 117)), ("head_names", 350, (.ref 124)), ("keyword_names", 360, (.ref 131)), ("where_names", 369, (.ref 138)), ("MOST_DEEP", 373, (.int 120 372)), ("NameSupply", 409, (.ref 162)), ("bare", 423, (.ref 173))] 29
noncomputable def o12c23 (P : Params) : Obj := tabO [(.int 2 0), (.int 0 0), (.ref 20), (.int 8 0), (.int 0 0), (.ref 41), (.int 11 0), (.int 0 0), (.ref 53), (.int 13 0), (.int 0 0), (.ref 60), (.int 15 0), (.int 0 0), (.ref 67), (.int 17 0), (.int 0 0), (.ref 74), (.int 19 0), (.int 0 0), (.ref 81), (.int 24 0), (.int 0 0), (.ref 90), (.int 35 0), (.int 0 0), (.ref 97), (.int 40 0), (.int 0 0), (.ref 102), (.int 56 0), (.int 0 0), (.ref 109), (.int 60 0), (.int 0 0), (.ref 116), (.int 64 0), (.int 0 0), (.ref 123), (.int 78 0), (.int 0 0), (.ref 130), (.int 85 0), (.int 0 0), (.ref 137), (.int 96 0), (.int 0 0), (.ref 144), (.int 104 0), (.int 0 0), (.ref 172)]
noncomputable def o3c24 (P : Params) : Obj := dctO P (.type "dict") [("__name__", 165, (sv "methodrows.hygiene" 370)), ("__doc__", 166, .none), ("__package__", 167, .none), ("__loader__", 168, (.builtin "__main__.__loader__#opaque")), ("__spec__", 169, .none), ("__annotations__", 170, (.ref 6)), ("__builtins__", 171, (.ref 4)), ("__file__", 173, (sv "/claim/cut.py" 172)), ("__cached__", 174, .none), ("RowsError", 219, (.ref 32)), ("MacroFault", 235, (.ref 45)), ("expr", 245, (.ref 54)), ("is_expr", 253, (.ref 61)), ("head_of", 260, (.ref 68)), ("parts_of", 267, (.ref 75)), ("is_sym", 274, (.ref 82)), ("OPENING", 292, (.ref 83)), ("CHANGING", 300, (.ref 84)), ("place_names", 310, (.ref 91)), ("declared_names", 319, (.ref 98)), ("own_names", 325, (.ref 103)), ("argument_names", 332, (.ref 110)), ("head_call", 339, (.ref 117)), ("head_names", 350, (.ref 124)), ("keyword_names", 360, (.ref 131)), ("where_names", 369, (.ref 138)), ("MOST_DEEP", 373, (.int 120 372)), ("NameSupply", 409, (.ref 162)), ("bare", 423, (.ref 173)), ("Renamer", 601, (.ref 280))] 30
noncomputable def o12c24 (P : Params) : Obj := tabO [(.int 2 0), (.int 0 0), (.ref 20), (.int 8 0), (.int 0 0), (.ref 41), (.int 11 0), (.int 0 0), (.ref 53), (.int 13 0), (.int 0 0), (.ref 60), (.int 15 0), (.int 0 0), (.ref 67), (.int 17 0), (.int 0 0), (.ref 74), (.int 19 0), (.int 0 0), (.ref 81), (.int 24 0), (.int 0 0), (.ref 90), (.int 35 0), (.int 0 0), (.ref 97), (.int 40 0), (.int 0 0), (.ref 102), (.int 56 0), (.int 0 0), (.ref 109), (.int 60 0), (.int 0 0), (.ref 116), (.int 64 0), (.int 0 0), (.ref 123), (.int 78 0), (.int 0 0), (.ref 130), (.int 85 0), (.int 0 0), (.ref 137), (.int 96 0), (.int 0 0), (.ref 144), (.int 104 0), (.int 0 0), (.ref 172), (.int 122 0), (.int 0 0), (.ref 179)]
noncomputable def o3c36 (P : Params) : Obj := dctO P (.type "dict") [("__name__", 165, (sv "methodrows.expand" 668)), ("__doc__", 166, .none), ("__package__", 167, .none), ("__loader__", 168, (.builtin "__main__.__loader__#opaque")), ("__spec__", 169, .none), ("__annotations__", 170, (.ref 6)), ("__builtins__", 171, (.ref 4)), ("__file__", 173, (sv "/claim/cut.py" 172)), ("__cached__", 174, .none), ("RowsError", 219, (.ref 32)), ("MacroFault", 235, (.ref 45)), ("expr", 245, (.ref 54)), ("is_expr", 253, (.ref 61)), ("head_of", 260, (.ref 68)), ("parts_of", 267, (.ref 75)), ("is_sym", 274, (.ref 82)), ("OPENING", 292, (.ref 83)), ("CHANGING", 300, (.ref 84)), ("place_names", 310, (.ref 91)), ("declared_names", 319, (.ref 98)), ("own_names", 325, (.ref 103)), ("argument_names", 332, (.ref 110)), ("head_call", 339, (.ref 117)), ("head_names", 350, (.ref 124)), ("keyword_names", 360, (.ref 131)), ("where_names", 369, (.ref 138)), ("MOST_DEEP", 373, (.int 120 372)), ("NameSupply", 409, (.ref 162)), ("bare", 423, (.ref 173)), ("Renamer", 601, (.ref 280)), ("renamed_locals", 609, (.ref 291)), ("MAKER", 615, (.ref 293)), ("plain_maker", 622, (.ref 300)), ("part_maker", 629, (.ref 307)), ("inner_depth", 637, (.ref 314)), ("put_in", 644, (.ref 321)), ("joined_parts", 650, (.ref 326)), ("quoted", 667, (.ref 333)), ("MOST_EXPANSIONS", 671, (.int 2000 670)), ("Expander", 738, (.ref 371))] 40
noncomputable def o12c36 (P : Params) : Obj := tabO [(.int 2 0), (.int 0 0), (.ref 20), (.int 8 0), (.int 0 0), (.ref 41), (.int 11 0), (.int 0 0), (.ref 53), (.int 13 0), (.int 0 0), (.ref 60), (.int 15 0), (.int 0 0), (.ref 67), (.int 17 0), (.int 0 0), (.ref 74), (.int 19 0), (.int 0 0), (.ref 81), (.int 24 0), (.int 0 0), (.ref 90), (.int 35 0), (.int 0 0), (.ref 97), (.int 40 0), (.int 0 0), (.ref 102), (.int 56 0), (.int 0 0), (.ref 109), (.int 60 0), (.int 0 0), (.ref 116), (.int 64 0), (.int 0 0), (.ref 123), (.int 78 0), (.int 0 0), (.ref 130), (.int 85 0), (.int 0 0), (.ref 137), (.int 96 0), (.int 0 0), (.ref 144), (.int 104 0), (.int 0 0), (.ref 172), (.int 122 0), (.int 0 0), (.ref 179), (.int 247 0), (.int 0 0), (.ref 290), (.int 251 0), (.int 0 0), (.ref 299), (.int 255 0), (.int 0 0), (.ref 306), (.int 257 0), (.int 0 0), (.ref 313), (.int 261 0), (.int 0 0), (.ref 320), (.int 265 0), (.int 0 0), (.ref 325), (.int 270 0), (.int 0 0), (.ref 332), (.int 293 0), (.int 0 0), (.ref 339)]
noncomputable def o12blk (P : Params) : Obj := tabO []
noncomputable def lfin (P : Params) : List Obj := [boot_o_0 P, boot_o_1 P, o2 P, o3 P, boot_o_4 P, boot_o_5 P, boot_o_6 P, boot_o_7 P, boot_o_8 P, boot_o_9 P, boot_o_10 P, o11 P, o12 P, o13 P, o14 P, o15 P, o16 P, o17 P, o18 P, o19 P, o20 P, o21 P, o22 P, o23 P, o24 P, o25 P, o26 P, o27 P, o28 P, o29 P, o30 P, o31 P, o32 P, o33 P, o34 P, o35 P, o36 P, o37 P, o38 P, o39 P, o40 P, o41 P, o42 P, o43 P, o44 P, o45 P, o46 P, o47 P, o48 P, o49 P, o50 P, o51 P, o52 P, o53 P, o54 P, o55 P, o56 P, o57 P, o58 P, o59 P, o60 P, o61 P, o62 P, o63 P, o64 P, o65 P, o66 P, o67 P, o68 P, o69 P, o70 P, o71 P, o72 P, o73 P, o74 P, o75 P, o76 P, o77 P, o78 P, o79 P, o80 P, o81 P, o82 P, o83 P, o84 P, o85 P, o86 P, o87 P, o88 P, o89 P, o90 P, o91 P, o92 P, o93 P, o94 P, o95 P, o96 P, o97 P, o98 P, o99 P, o100 P, o101 P, o102 P, o103 P, o104 P, o105 P, o106 P, o107 P, o108 P, o109 P, o110 P, o111 P, o112 P, o113 P, o114 P, o115 P, o116 P, o117 P, o118 P, o119 P, o120 P, o121 P, o122 P, o123 P, o124 P, o125 P, o126 P, o127 P, o128 P, o129 P, o130 P, o131 P, o132 P, o133 P, o134 P, o135 P, o136 P, o137 P, o138 P, o139 P, o140 P, o141 P, o142 P, o143 P, o144 P, o145 P, o146 P, o147 P, o148 P, o149 P, o150 P, o151 P, o152 P, o153 P, o154 P, o155 P, o156 P, o157 P, o158 P, o159 P, o160 P, o161 P, o162 P, o163 P, o164 P, o165 P, o166 P, o167 P, o168 P, o169 P, o170 P, o171 P, o172 P, o173 P, o174 P, o175 P, o176 P, o177 P, o178 P, o179 P, o180 P, o181 P, o182 P, o183 P, o184 P, o185 P, o186 P, o187 P, o188 P, o189 P, o190 P, o191 P, o192 P, o193 P, o194 P, o195 P, o196 P, o197 P, o198 P, o199 P, o200 P, o201 P, o202 P, o203 P, o204 P, o205 P, o206 P, o207 P, o208 P, o209 P, o210 P, o211 P, o212 P, o213 P, o214 P, o215 P, o216 P, o217 P, o218 P, o219 P, o220 P, o221 P, o222 P, o223 P, o224 P, o225 P, o226 P, o227 P, o228 P, o229 P, o230 P, o231 P, o232 P, o233 P, o234 P, o235 P, o236 P, o237 P, o238 P, o239 P, o240 P, o241 P, o242 P, o243 P, o244 P, o245 P, o246 P, o247 P, o248 P, o249 P, o250 P, o251 P, o252 P, o253 P, o254 P, o255 P, o256 P, o257 P, o258 P, o259 P, o260 P, o261 P, o262 P, o263 P, o264 P, o265 P, o266 P, o267 P, o268 P, o269 P, o270 P, o271 P, o272 P, o273 P, o274 P, o275 P, o276 P, o277 P, o278 P, o279 P, o280 P, o281 P, o282 P, o283 P, o284 P, o285 P, o286 P, o287 P, o288 P, o289 P, o290 P, o291 P, o292 P, o293 P, o294 P, o295 P, o296 P, o297 P, o298 P, o299 P, o300 P, o301 P, o302 P, o303 P, o304 P, o305 P, o306 P, o307 P, o308 P, o309 P, o310 P, o311 P, o312 P, o313 P, o314 P, o315 P, o316 P, o317 P, o318 P, o319 P, o320 P, o321 P, o322 P, o323 P, o324 P, o325 P, o326 P, o327 P, o328 P, o329 P, o330 P, o331 P, o332 P, o333 P, o334 P, o335 P, o336 P, o337 P, o338 P, o339 P, o340 P, o341 P, o342 P, o343 P, o344 P, o345 P, o346 P, o347 P, o348 P, o349 P, o350 P, o351 P, o352 P, o353 P, o354 P, o355 P, o356 P, o357 P, o358 P, o359 P, o360 P, o361 P, o362 P, o363 P, o364 P, o365 P, o366 P, o367 P, o368 P, o369 P, o370 P, o371 P, o372 P, o373 P, o374 P, o375 P, o376 P, o377 P, o378 P, o379 P, o380 P, o381 P, o382 P, o383 P, o384 P, o385 P, o386 P, o387 P, o388 P, o389 P, o390 P, o391 P, o392 P, o393 P, o394 P, o395 P, o396 P, o397 P, o398 P, o399 P, o400 P, o401 P, o402 P, o403 P, o404 P, o405 P, o406 P, o407 P, o408 P, o409 P, o410 P, o411 P, o412 P, o413 P, o414 P, o415 P, o416 P, o417 P, o418 P, o419 P, o420 P, o421 P, o422 P, o423 P, o424 P, o425 P, o426 P, o427 P, o428 P, o429 P, o430 P, o431 P, o432 P, o433 P, o434 P, o435 P, o436 P, o437 P, o438 P, o439 P, o440 P, o441 P, o442 P, o443 P, o444 P, o445 P, o446 P, o447 P, o448 P, o449 P]
noncomputable def lc12 (P : Params) : List Obj := [boot_o_0 P, boot_o_1 P, o2 P, o3c12 P, boot_o_4 P, boot_o_5 P, boot_o_6 P, boot_o_7 P, boot_o_8 P, boot_o_9 P, boot_o_10 P, o11 P, o12c12 P, o13 P, o14 P, o15 P, o16 P, o17 P, o18 P, o19 P, o20 P, o21 P, o22 P, o23 P, o24 P, o25 P, o26 P, o27 P, o28 P, o29 P, o30 P, o31 P, o32 P, o33 P, o34 P, o35 P, o36 P, o37 P, o38 P, o39 P, o40 P, o41 P, o42 P, o43 P, o44 P, o45 P, o46 P, o47 P, o48 P, o49 P, o50 P, o51 P, o52 P, o53 P, o54 P, o55 P, o56 P, o57 P, o58 P, o59 P, o60 P, o61 P, o62 P, o63 P, o64 P, o65 P, o66 P, o67 P, o68 P, o69 P, o70 P, o71 P, o72 P, o73 P, o74 P, o75 P, o76 P, o77 P, o78 P, o79 P, o80 P, o81 P, o82 P, o83 P, o84 P, o85 P, o86 P, o87 P, o88 P, o89 P, o90 P, o91 P]
noncomputable def lc23 (P : Params) : List Obj := [boot_o_0 P, boot_o_1 P, o2 P, o3c23 P, boot_o_4 P, boot_o_5 P, boot_o_6 P, boot_o_7 P, boot_o_8 P, boot_o_9 P, boot_o_10 P, o11 P, o12c23 P, o13 P, o14 P, o15 P, o16 P, o17 P, o18 P, o19 P, o20 P, o21 P, o22 P, o23 P, o24 P, o25 P, o26 P, o27 P, o28 P, o29 P, o30 P, o31 P, o32 P, o33 P, o34 P, o35 P, o36 P, o37 P, o38 P, o39 P, o40 P, o41 P, o42 P, o43 P, o44 P, o45 P, o46 P, o47 P, o48 P, o49 P, o50 P, o51 P, o52 P, o53 P, o54 P, o55 P, o56 P, o57 P, o58 P, o59 P, o60 P, o61 P, o62 P, o63 P, o64 P, o65 P, o66 P, o67 P, o68 P, o69 P, o70 P, o71 P, o72 P, o73 P, o74 P, o75 P, o76 P, o77 P, o78 P, o79 P, o80 P, o81 P, o82 P, o83 P, o84 P, o85 P, o86 P, o87 P, o88 P, o89 P, o90 P, o91 P, o92 P, o93 P, o94 P, o95 P, o96 P, o97 P, o98 P, o99 P, o100 P, o101 P, o102 P, o103 P, o104 P, o105 P, o106 P, o107 P, o108 P, o109 P, o110 P, o111 P, o112 P, o113 P, o114 P, o115 P, o116 P, o117 P, o118 P, o119 P, o120 P, o121 P, o122 P, o123 P, o124 P, o125 P, o126 P, o127 P, o128 P, o129 P, o130 P, o131 P, o132 P, o133 P, o134 P, o135 P, o136 P, o137 P, o138 P, o139 P, o140 P, o141 P, o142 P, o143 P, o144 P, o145 P, o146 P, o147 P, o148 P, o149 P, o150 P, o151 P, o152 P, o153 P, o154 P, o155 P, o156 P, o157 P, o158 P, o159 P, o160 P, o161 P, o162 P, o163 P, o164 P, o165 P, o166 P, o167 P, o168 P, o169 P, o170 P, o171 P, o172 P, o173 P]
noncomputable def lc24 (P : Params) : List Obj := [boot_o_0 P, boot_o_1 P, o2 P, o3c24 P, boot_o_4 P, boot_o_5 P, boot_o_6 P, boot_o_7 P, boot_o_8 P, boot_o_9 P, boot_o_10 P, o11 P, o12c24 P, o13 P, o14 P, o15 P, o16 P, o17 P, o18 P, o19 P, o20 P, o21 P, o22 P, o23 P, o24 P, o25 P, o26 P, o27 P, o28 P, o29 P, o30 P, o31 P, o32 P, o33 P, o34 P, o35 P, o36 P, o37 P, o38 P, o39 P, o40 P, o41 P, o42 P, o43 P, o44 P, o45 P, o46 P, o47 P, o48 P, o49 P, o50 P, o51 P, o52 P, o53 P, o54 P, o55 P, o56 P, o57 P, o58 P, o59 P, o60 P, o61 P, o62 P, o63 P, o64 P, o65 P, o66 P, o67 P, o68 P, o69 P, o70 P, o71 P, o72 P, o73 P, o74 P, o75 P, o76 P, o77 P, o78 P, o79 P, o80 P, o81 P, o82 P, o83 P, o84 P, o85 P, o86 P, o87 P, o88 P, o89 P, o90 P, o91 P, o92 P, o93 P, o94 P, o95 P, o96 P, o97 P, o98 P, o99 P, o100 P, o101 P, o102 P, o103 P, o104 P, o105 P, o106 P, o107 P, o108 P, o109 P, o110 P, o111 P, o112 P, o113 P, o114 P, o115 P, o116 P, o117 P, o118 P, o119 P, o120 P, o121 P, o122 P, o123 P, o124 P, o125 P, o126 P, o127 P, o128 P, o129 P, o130 P, o131 P, o132 P, o133 P, o134 P, o135 P, o136 P, o137 P, o138 P, o139 P, o140 P, o141 P, o142 P, o143 P, o144 P, o145 P, o146 P, o147 P, o148 P, o149 P, o150 P, o151 P, o152 P, o153 P, o154 P, o155 P, o156 P, o157 P, o158 P, o159 P, o160 P, o161 P, o162 P, o163 P, o164 P, o165 P, o166 P, o167 P, o168 P, o169 P, o170 P, o171 P, o172 P, o173 P, o174 P, o175 P, o176 P, o177 P, o178 P, o179 P, o180 P, o181 P, o182 P, o183 P, o184 P, o185 P, o186 P, o187 P, o188 P, o189 P, o190 P, o191 P, o192 P, o193 P, o194 P, o195 P, o196 P, o197 P, o198 P, o199 P, o200 P, o201 P, o202 P, o203 P, o204 P, o205 P, o206 P, o207 P, o208 P, o209 P, o210 P, o211 P, o212 P, o213 P, o214 P, o215 P, o216 P, o217 P, o218 P, o219 P, o220 P, o221 P, o222 P, o223 P, o224 P, o225 P, o226 P, o227 P, o228 P, o229 P, o230 P, o231 P, o232 P, o233 P, o234 P, o235 P, o236 P, o237 P, o238 P, o239 P, o240 P, o241 P, o242 P, o243 P, o244 P, o245 P, o246 P, o247 P, o248 P, o249 P, o250 P, o251 P, o252 P, o253 P, o254 P, o255 P, o256 P, o257 P, o258 P, o259 P, o260 P, o261 P, o262 P, o263 P, o264 P, o265 P, o266 P, o267 P, o268 P, o269 P, o270 P, o271 P, o272 P, o273 P, o274 P, o275 P, o276 P, o277 P, o278 P, o279 P, o280 P, o281 P, o282 P, o283 P, o284 P]
noncomputable def lc36 (P : Params) : List Obj := [boot_o_0 P, boot_o_1 P, o2 P, o3c36 P, boot_o_4 P, boot_o_5 P, boot_o_6 P, boot_o_7 P, boot_o_8 P, boot_o_9 P, boot_o_10 P, o11 P, o12c36 P, o13 P, o14 P, o15 P, o16 P, o17 P, o18 P, o19 P, o20 P, o21 P, o22 P, o23 P, o24 P, o25 P, o26 P, o27 P, o28 P, o29 P, o30 P, o31 P, o32 P, o33 P, o34 P, o35 P, o36 P, o37 P, o38 P, o39 P, o40 P, o41 P, o42 P, o43 P, o44 P, o45 P, o46 P, o47 P, o48 P, o49 P, o50 P, o51 P, o52 P, o53 P, o54 P, o55 P, o56 P, o57 P, o58 P, o59 P, o60 P, o61 P, o62 P, o63 P, o64 P, o65 P, o66 P, o67 P, o68 P, o69 P, o70 P, o71 P, o72 P, o73 P, o74 P, o75 P, o76 P, o77 P, o78 P, o79 P, o80 P, o81 P, o82 P, o83 P, o84 P, o85 P, o86 P, o87 P, o88 P, o89 P, o90 P, o91 P, o92 P, o93 P, o94 P, o95 P, o96 P, o97 P, o98 P, o99 P, o100 P, o101 P, o102 P, o103 P, o104 P, o105 P, o106 P, o107 P, o108 P, o109 P, o110 P, o111 P, o112 P, o113 P, o114 P, o115 P, o116 P, o117 P, o118 P, o119 P, o120 P, o121 P, o122 P, o123 P, o124 P, o125 P, o126 P, o127 P, o128 P, o129 P, o130 P, o131 P, o132 P, o133 P, o134 P, o135 P, o136 P, o137 P, o138 P, o139 P, o140 P, o141 P, o142 P, o143 P, o144 P, o145 P, o146 P, o147 P, o148 P, o149 P, o150 P, o151 P, o152 P, o153 P, o154 P, o155 P, o156 P, o157 P, o158 P, o159 P, o160 P, o161 P, o162 P, o163 P, o164 P, o165 P, o166 P, o167 P, o168 P, o169 P, o170 P, o171 P, o172 P, o173 P, o174 P, o175 P, o176 P, o177 P, o178 P, o179 P, o180 P, o181 P, o182 P, o183 P, o184 P, o185 P, o186 P, o187 P, o188 P, o189 P, o190 P, o191 P, o192 P, o193 P, o194 P, o195 P, o196 P, o197 P, o198 P, o199 P, o200 P, o201 P, o202 P, o203 P, o204 P, o205 P, o206 P, o207 P, o208 P, o209 P, o210 P, o211 P, o212 P, o213 P, o214 P, o215 P, o216 P, o217 P, o218 P, o219 P, o220 P, o221 P, o222 P, o223 P, o224 P, o225 P, o226 P, o227 P, o228 P, o229 P, o230 P, o231 P, o232 P, o233 P, o234 P, o235 P, o236 P, o237 P, o238 P, o239 P, o240 P, o241 P, o242 P, o243 P, o244 P, o245 P, o246 P, o247 P, o248 P, o249 P, o250 P, o251 P, o252 P, o253 P, o254 P, o255 P, o256 P, o257 P, o258 P, o259 P, o260 P, o261 P, o262 P, o263 P, o264 P, o265 P, o266 P, o267 P, o268 P, o269 P, o270 P, o271 P, o272 P, o273 P, o274 P, o275 P, o276 P, o277 P, o278 P, o279 P, o280 P, o281 P, o282 P, o283 P, o284 P, o285 P, o286 P, o287 P, o288 P, o289 P, o290 P, o291 P, o292 P, o293 P, o294 P, o295 P, o296 P, o297 P, o298 P, o299 P, o300 P, o301 P, o302 P, o303 P, o304 P, o305 P, o306 P, o307 P, o308 P, o309 P, o310 P, o311 P, o312 P, o313 P, o314 P, o315 P, o316 P, o317 P, o318 P, o319 P, o320 P, o321 P, o322 P, o323 P, o324 P, o325 P, o326 P, o327 P, o328 P, o329 P, o330 P, o331 P, o332 P, o333 P, o334 P, o335 P, o336 P, o337 P, o338 P, o339 P, o340 P, o341 P, o342 P, o343 P, o344 P, o345 P, o346 P, o347 P, o348 P, o349 P, o350 P, o351 P, o352 P, o353 P, o354 P, o355 P, o356 P, o357 P, o358 P, o359 P, o360 P, o361 P, o362 P, o363 P, o364 P, o365 P, o366 P, o367 P, o368 P, o369 P, o370 P, o371 P, o372 P, o373 P, o374 P, o375 P]
noncomputable def lblk (P : Params) : List Obj := [boot_o_0 P, boot_o_1 P, boot_o_2 P, boot_o_3 P, boot_o_4 P, boot_o_5 P, boot_o_6 P, boot_o_7 P, boot_o_8 P, boot_o_9 P, boot_o_10 P, o11 P, o12blk P, o13 P, o14 P]
noncomputable def lpre (P : Params) : List Obj := [boot_o_0 P, boot_o_1 P, boot_o_2 P, boot_o_3 P, boot_o_4 P, boot_o_5 P, boot_o_6 P, boot_o_7 P, boot_o_8 P, boot_o_9 P, boot_o_10 P, o11 P, o12blk P, o13 P, o14 P]
noncomputable def kf (P : Params) : Frag := [(2, o2 P), (3, o3 P), (15, o15 P), (22, o22 P), (23, o23 P), (25, o25 P), (26, o26 P), (28, o28 P), (29, o29 P), (30, o30 P), (31, o31 P), (32, o32 P), (33, o33 P), (36, o36 P), (43, o43 P), (44, o44 P), (45, o45 P), (48, o48 P), (50, o50 P), (51, o51 P), (53, o53 P), (54, o54 P), (55, o55 P), (57, o57 P), (58, o58 P), (60, o60 P), (61, o61 P), (62, o62 P), (64, o64 P), (65, o65 P), (67, o67 P), (68, o68 P), (69, o69 P), (71, o71 P), (72, o72 P), (74, o74 P), (75, o75 P), (76, o76 P), (78, o78 P), (79, o79 P), (81, o81 P), (82, o82 P), (83, o83 P), (84, o84 P), (85, o85 P), (87, o87 P), (88, o88 P), (90, o90 P), (91, o91 P), (92, o92 P), (94, o94 P), (95, o95 P), (97, o97 P), (98, o98 P), (99, o99 P), (102, o102 P), (103, o103 P), (104, o104 P), (106, o106 P), (107, o107 P), (109, o109 P), (110, o110 P), (111, o111 P), (113, o113 P), (114, o114 P), (116, o116 P), (117, o117 P), (118, o118 P), (120, o120 P), (121, o121 P), (123, o123 P), (124, o124 P), (125, o125 P), (127, o127 P), (128, o128 P), (130, o130 P), (131, o131 P), (132, o132 P), (134, o134 P), (135, o135 P), (137, o137 P), (138, o138 P), (146, o146 P), (148, o148 P), (149, o149 P), (151, o151 P), (152, o152 P), (153, o153 P), (155, o155 P), (156, o156 P), (158, o158 P), (159, o159 P), (160, o160 P), (161, o161 P), (162, o162 P), (163, o163 P), (164, o164 P), (167, o167 P), (169, o169 P), (170, o170 P), (172, o172 P), (173, o173 P), (181, o181 P), (183, o183 P), (184, o184 P), (186, o186 P), (187, o187 P), (188, o188 P), (190, o190 P), (191, o191 P), (193, o193 P), (194, o194 P), (195, o195 P), (197, o197 P), (198, o198 P), (200, o200 P), (201, o201 P), (202, o202 P), (204, o204 P), (205, o205 P), (207, o207 P), (208, o208 P), (209, o209 P), (212, o212 P), (213, o213 P), (214, o214 P), (216, o216 P), (217, o217 P), (219, o219 P), (220, o220 P), (221, o221 P), (224, o224 P), (225, o225 P), (226, o226 P), (228, o228 P), (229, o229 P), (231, o231 P), (232, o232 P), (233, o233 P), (235, o235 P), (236, o236 P), (238, o238 P), (239, o239 P), (240, o240 P), (243, o243 P), (244, o244 P), (245, o245 P), (247, o247 P), (248, o248 P), (250, o250 P), (251, o251 P), (252, o252 P), (254, o254 P), (255, o255 P), (257, o257 P), (258, o258 P), (259, o259 P), (261, o261 P), (262, o262 P), (264, o264 P), (265, o265 P), (266, o266 P), (269, o269 P), (270, o270 P), (271, o271 P), (273, o273 P), (274, o274 P), (276, o276 P), (277, o277 P), (278, o278 P), (279, o279 P), (280, o280 P), (281, o281 P), (282, o282 P), (285, o285 P), (287, o287 P), (288, o288 P), (290, o290 P), (291, o291 P), (292, o292 P), (293, o293 P), (294, o294 P), (296, o296 P), (297, o297 P), (299, o299 P), (300, o300 P), (301, o301 P), (303, o303 P), (304, o304 P), (306, o306 P), (307, o307 P), (308, o308 P), (310, o310 P), (311, o311 P), (313, o313 P), (314, o314 P), (315, o315 P), (317, o317 P), (318, o318 P), (320, o320 P), (321, o321 P), (322, o322 P), (325, o325 P), (326, o326 P), (327, o327 P), (329, o329 P), (330, o330 P), (332, o332 P), (333, o333 P), (341, o341 P), (343, o343 P), (344, o344 P), (346, o346 P), (347, o347 P), (348, o348 P), (350, o350 P), (351, o351 P), (353, o353 P), (354, o354 P), (355, o355 P), (357, o357 P), (358, o358 P), (360, o360 P), (361, o361 P), (362, o362 P), (364, o364 P), (365, o365 P), (367, o367 P), (368, o368 P), (369, o369 P), (370, o370 P), (371, o371 P), (372, o372 P), (373, o373 P), (376, o376 P), (377, o377 P), (379, o379 P), (380, o380 P), (382, o382 P), (383, o383 P), (384, o384 P), (386, o386 P), (387, o387 P), (389, o389 P), (390, o390 P), (391, o391 P), (393, o393 P), (394, o394 P), (396, o396 P), (397, o397 P), (398, o398 P), (400, o400 P), (401, o401 P), (403, o403 P), (404, o404 P), (405, o405 P), (407, o407 P), (408, o408 P), (410, o410 P), (411, o411 P), (412, o412 P), (414, o414 P), (415, o415 P), (417, o417 P), (418, o418 P), (419, o419 P), (421, o421 P), (422, o422 P), (424, o424 P), (425, o425 P), (426, o426 P), (429, o429 P), (430, o430 P), (431, o431 P), (434, o434 P), (435, o435 P), (436, o436 P), (438, o438 P), (439, o439 P), (441, o441 P), (442, o442 P), (443, o443 P), (445, o445 P), (446, o446 P), (448, o448 P), (449, o449 P)]
@[reducible] noncomputable def kas : List Addr := [2, 3, 15, 22, 23, 25, 26, 28, 29, 30, 31, 32, 33, 36, 43, 44, 45, 48, 50, 51, 53, 54, 55, 57, 58, 60, 61, 62, 64, 65, 67, 68, 69, 71, 72, 74, 75, 76, 78, 79, 81, 82, 83, 84, 85, 87, 88, 90, 91, 92, 94, 95, 97, 98, 99, 102, 103, 104, 106, 107, 109, 110, 111, 113, 114, 116, 117, 118, 120, 121, 123, 124, 125, 127, 128, 130, 131, 132, 134, 135, 137, 138, 146, 148, 149, 151, 152, 153, 155, 156, 158, 159, 160, 161, 162, 163, 164, 167, 169, 170, 172, 173, 181, 183, 184, 186, 187, 188, 190, 191, 193, 194, 195, 197, 198, 200, 201, 202, 204, 205, 207, 208, 209, 212, 213, 214, 216, 217, 219, 220, 221, 224, 225, 226, 228, 229, 231, 232, 233, 235, 236, 238, 239, 240, 243, 244, 245, 247, 248, 250, 251, 252, 254, 255, 257, 258, 259, 261, 262, 264, 265, 266, 269, 270, 271, 273, 274, 276, 277, 278, 279, 280, 281, 282, 285, 287, 288, 290, 291, 292, 293, 294, 296, 297, 299, 300, 301, 303, 304, 306, 307, 308, 310, 311, 313, 314, 315, 317, 318, 320, 321, 322, 325, 326, 327, 329, 330, 332, 333, 341, 343, 344, 346, 347, 348, 350, 351, 353, 354, 355, 357, 358, 360, 361, 362, 364, 365, 367, 368, 369, 370, 371, 372, 373, 376, 377, 379, 380, 382, 383, 384, 386, 387, 389, 390, 391, 393, 394, 396, 397, 398, 400, 401, 403, 404, 405, 407, 408, 410, 411, 412, 414, 415, 417, 418, 419, 421, 422, 424, 425, 426, 429, 430, 431, 434, 435, 436, 438, 439, 441, 442, 443, 445, 446, 448, 449]
/-- the tree of a list's objects -/
noncomputable def alt : List Obj → List Obj
  | a :: _ :: r => a :: alt r
  | l => l
noncomputable def mkT : Nat → List Obj → BT
  | 0, _ => .nil
  | _ + 1, [] => .nil
  | k + 1, o :: r => .node o (mkT k (alt r)) (mkT k (alt r.tail))
noncomputable def sTr (l : List Obj) (n t : Nat) (os : OsState) : SharedT := ⟨mkT 10 l, n, {}, #[], {}, t, os⟩
end Mine
namespace Mine
noncomputable def env0 : Env := { scope := pw.main.scope, locals := mainNs, globals := mainNs, cells := [], code := .ref 13, frame := some 14 }
@[reducible] noncomputable def p0 : Pos := ⟨0, 0, 0, 0⟩
noncomputable def cd0 : Code := .body (behindTheImports pw) env0
noncomputable def sts (i n : Nat) : List Stmt := ((behindTheImports pw).drop i).take n
theorem seg1 (w : World) (os : OsState) : segRunT treeTable pw w 11 (some (.ref 6)) 1 800 (sTr (lblk w.params) 15 187 os) (piecesOf (sts 0 13) env0 cd0 p0 [topFrame p0]) = some (.next, sTr (lc12 w.params) 92 311 os, cd0, ⟨24, 0, 34, 16⟩) := by
  rw [PySem.W.Fast.te10110043849684766642, PySem.W.Fast.te14364793385576792824]
  kernel_rfl
theorem seg2 (w : World) (os : OsState) : segRunT treeTable pw w 11 (some (.ref 6)) 1 800 (sTr (lc12 w.params) 92 311 os) (piecesOf (sts 13 11) env0 cd0 ⟨24, 0, 34, 16⟩ [topFrame p0]) = some (.next, sTr (lc23 w.params) 174 424 os, cd0, ⟨104, 0, 121, 18⟩) := by
  rw [PySem.W.Fast.te10110043849684766642, PySem.W.Fast.te14364793385576792824]
  kernel_rfl
theorem seg3 (w : World) (os : OsState) : segRunT treeTable pw w 11 (some (.ref 6)) 1 800 (sTr (lc23 w.params) 174 424 os) (piecesOf (sts 24 1) env0 cd0 ⟨104, 0, 121, 18⟩ [topFrame p0]) = some (.next, sTr (lc24 w.params) 285 602 os, cd0, ⟨122, 0, 246, 75⟩) := by
  rw [PySem.W.Fast.te10110043849684766642, PySem.W.Fast.te14364793385576792824]
  kernel_rfl
theorem seg4 (w : World) (os : OsState) : segRunT treeTable pw w 11 (some (.ref 6)) 1 800 (sTr (lc24 w.params) 285 602 os) (piecesOf (sts 25 12) env0 cd0 ⟨122, 0, 246, 75⟩ [topFrame p0]) = some (.next, sTr (lc36 w.params) 376 739 os, cd0, ⟨293, 0, 337, 22⟩) := by
  rw [PySem.W.Fast.te10110043849684766642, PySem.W.Fast.te14364793385576792824]
  kernel_rfl
theorem seg5 (w : World) (os : OsState) : segRunT treeTable pw w 11 (some (.ref 6)) 1 800 (sTr (lc36 w.params) 376 739 os) (piecesOf (sts 37 12) env0 cd0 ⟨293, 0, 337, 22⟩ [topFrame p0]) = some (.next, sTr (lfin w.params) 450 835 os, cd0, ⟨410, 0, 428, 15⟩) := by
  rw [PySem.W.Fast.te10110043849684766642, PySem.W.Fast.te14364793385576792824]
  kernel_rfl
theorem pre0 (w : World) (os : OsState) : topGo treeTable pw w 11 (some (.ref 6)) 12 ⟨boot_heap w.params, #[], boot_drawn, boot_toks, os⟩ (topStub pw) = some (⟨⟨(lpre w.params).toArray, {}⟩, #[], {}, 187, os⟩, ⟨denote treeTable cd0, cd0, p0, [topFrame p0]⟩) := by
  rw [PySem.W.Fast.te15667345088766844465, PySem.W.Fast.te14364793385576792824, PySem.W.Fast.te11892475500146522536]
  kernel_rfl
theorem blk0 (w : World) (os : OsState) : segRun treeTable pw w 11 (some (.ref 6)) 1 1 ⟨⟨(lpre w.params).toArray, {}⟩, #[], {}, 187, os⟩ (blockOf (behindTheImports pw) env0 cd0 p0 [topFrame p0]) = some (.next, SharedT.abs (sTr (lblk w.params) 15 187 os), cd0, p0) := by
  rw [PySem.W.Fast.te14374325043358763698, PySem.W.Fast.te14364793385576792824]
  kernel_rfl
theorem fin0 (w : World) (os : OsState) : topRun treeTable pw w 11 (some (.ref 6)) 2 (SharedT.abs (sTr (lfin w.params) 450 835 os)) ⟨doneF .next, cd0, ⟨410, 0, 428, 15⟩, [topFrame p0]⟩ = some ⟨⟨(lfin w.params).toArray, {}⟩, #[], {}, 835, os⟩ := by
  rw [PySem.W.Fast.te14082659384304107361, PySem.W.Fast.te14364793385576792824]
  kernel_rfl
end Mine
namespace Mine
theorem pieces_eq : behindTheImports pw = sts 0 13 ++ (sts 13 11 ++ (sts 24 1 ++ (sts 25 12 ++ (sts 37 12 ++ [])))) := by kernel_rfl
theorem runs (w : World) (os : OsState) : topRun treeTable pw w 11 (some (.ref 6)) (12 + (1 + (800 + (800 + (800 + (800 + (800 + 2))))))) ⟨boot_heap w.params, #[], boot_drawn, boot_toks, os⟩ (topStub pw) = some ⟨⟨(lfin w.params).toArray, {}⟩, #[], {}, 835, os⟩ := by
  refine go_top (pre0 w os) ?_
  refine piece_block (blk0 w os) ?_
  rw [pieces_eq]
  exact piece_app (segRun_of (seg1 w os)) (piece_app (segRun_of (seg2 w os)) (piece_app (segRun_of (seg3 w os)) (piece_app (segRun_of (seg4 w os)) (piece_app (segRun_of (seg5 w os)) (piece_nil (fin0 w os))))))
noncomputable def vw : Program := view pw [48]
noncomputable def lse : List Str := [Str.ofString "RowsError", Str.ofString "MacroFault", Str.ofString "expr", Str.ofString "is_expr", Str.ofString "head_of", Str.ofString "parts_of", Str.ofString "is_sym", Str.ofString "OPENING", Str.ofString "CHANGING", Str.ofString "place_names", Str.ofString "declared_names", Str.ofString "own_names", Str.ofString "argument_names", Str.ofString "head_call", Str.ofString "head_names", Str.ofString "keyword_names", Str.ofString "where_names", Str.ofString "MOST_DEEP", Str.ofString "NameSupply", Str.ofString "bare", Str.ofString "Renamer", Str.ofString "renamed_locals", Str.ofString "MAKER", Str.ofString "plain_maker", Str.ofString "part_maker", Str.ofString "inner_depth", Str.ofString "put_in", Str.ofString "joined_parts", Str.ofString "quoted", Str.ofString "MOST_EXPANSIONS", Str.ofString "Expander", Str.ofString "expanded", Str.ofString "_law_bag", Str.ofString "_law_pick", Str.ofString "_law_kept", Str.ofString "_law_macros", Str.ofString "_law_tree", Str.ofString "_law_constant", Str.ofString "_law_due", Str.ofString "_law_is_clean", Str.ofString "_law_refused"]
noncomputable def xt (s : Shared) : Bool := xlAt vw [] s && recOk (RowW.records PySem.Challenge.rw_pc0210_01.row.toRowW) s
theorem kas_eq (P : Params) : kas = (kf P).map (·.1) := rfl
noncomputable def hk : Hook := kmHook kf kas kas_eq [406]
noncomputable def hfin (P : Params) : Heap := ⟨(lfin P).toArray, {}⟩
theorem size0 (w : World) : ((boot_heap w.params).isNs mainGlobals && (#[] : Array GenState).size == 0, (boot_heap w.params).objs.size, (boot_heap w.params).nsMap mainGlobals "__annotations__") = (true, 11, some (Value.ref 6)) := by kernel_rfl
theorem look1 (w : World) (os : OsState) : (staticsOk (importedModules pw.main.body) (boot_heap w.params) (hfin w.params) && namesBound pw (hfin w.params) && gensDone ⟨hfin w.params, #[], {}, 835, os⟩ && laidKept (boot_heap w.params) (hfin w.params)) = true := by
  rw [PySem.W.Fast.te5923862056798008813]
  kernel_rfl
theorem look2 (w : World) (os : OsState) : openSeen vw lse (importedModules pw.main.body) xt true ⟨hfin w.params, #[], {}, 835, os⟩ = openGood vw lse := by
  rw [PySem.W.Fast.te5923862056798008813, PySem.W.Fast.te4187177175401517315]
  kernel_rfl
theorem look3 (w : World) (os : OsState) : hk.obs ⟨hfin w.params, #[], {}, 835, os⟩ = hk.val w := by kernel_rfl
end Mine
namespace Mine
theorem left0 : LeftO pw vw lse xt hk.obs hk.val 5000 :=
  LeftO.of_pieces (H₀ := boot_heap) (H₁ := hfin) (gs₁ := #[]) (d₁ := {}) (k₁ := 835) (boot_open rfl rfl fun s => rfl) size0 runs rfl fun w => funext fun os => by
    rw [look1, look2, look3]
@[reducible] noncomputable def dLaw : DefRec := ⟨Str.ofString "law", paramsOf (st 48), bodyOf (st 48), scopeOf (st 48), ⟨410, 0, 428, 15⟩⟩
theorem said0 : PySem.Challenge.rw_pc0210_01.wellSaid = true :=
  (congrFun PySem.W.Fast.te9446332074065402090 PySem.Challenge.rw_pc0210_01).trans (look_both (look_both (look_both (look_both (look_both (look_both (look_both (look_both (look_both (look_both (look_both (look_both (look_both (look_both (look_both (look_both (look_both (look_both (look_both (look_both (look_both (look_both (look_both (look_both (look_both (look_both (look_both (look_both (look_both (look_both (look_both (look_both (look_both (look_both (look_both (look_both (look_both (look_both (by decide +kernel) (by decide +kernel)) (by decide +kernel)) (by decide +kernel)) (by decide +kernel)) (by decide +kernel)) (by decide +kernel)) (by decide +kernel)) (by decide +kernel)) (by decide +kernel)) (by decide +kernel)) (by decide +kernel)) (by decide +kernel)) (by decide +kernel)) (by decide +kernel)) (by decide +kernel)) (by decide +kernel)) (by decide +kernel)) (by decide +kernel)) (by decide +kernel)) (by decide +kernel)) (by decide +kernel)) (by decide +kernel)) (by decide +kernel)) (by decide +kernel)) (by decide +kernel)) (by decide +kernel)) (by decide +kernel)) (by decide +kernel)) (by decide +kernel)) (by decide +kernel)) (by decide +kernel)) (by decide +kernel)) (by decide +kernel)) (by decide +kernel)) (by decide +kernel)) (by decide +kernel)) (by decide +kernel)) (by decide +kernel))
theorem head (call : WalkO vw lse (XL vw []) hk.says PySem.Challenge.rw_pc0210_01.row.toRowW dLaw [] fun f vs => PySem.call f vs) : PySem.Challenge.rw_pc0210_01.Holds :=
  holds_law said0 fun said => holds_open (N := 5000) left0 hk.of hk.keeps (fun s e => xl_of s (Bool.and_eq_true_iff.mp e).1) XL.keeps (by kernel_rfl) (by kernel_rfl) (by kernel_rfl) (fun s e => recFacts_of (Bool.and_eq_true_iff.mp e).2) rfl said
    (by decide +kernel) ⟨rfl, rfl, rfl, rfl, rfl, by decide +kernel⟩ ⟨[.list []], by decide +kernel, by decide +kernel⟩ call
end Mine
namespace Mine
/-- the parameters' places -/
noncomputable def psOK (names : Names) (ps : List Nat) : Bool := ps.all (fun i => match names[i]? with | some (_, .local) => true | some (_, .cell) => true | _ => false) && nodupB ps
/-- the function at `a` is what its erased text says -/
structure FnText (K : Frag) (a : Nat) (f : List Nat × Nat × List MS) (names : Names) (body : List Stmt) : Prop where
  it : FnIt K a names f.1 body
  keep : keepIn K (.ref a) = true
  nodup : (names.map (·.1)).Nodup
  len : names.length = f.2.1
  er : body.map (erS names 40) = f.2.2
  pk : psOK names f.1 = true
theorem len0 {vs : List Value} (h : vs.length = 0) : vs = [] := List.length_eq_zero_iff.mp h
theorem len1 {vs : List Value} (h : vs.length = 1) : ∃ a, vs = [a] := List.length_eq_one_iff.mp h
theorem lenS {vs : List Value} {n : Nat} (h : vs.length = n + 1) : ∃ a r, vs = a :: r ∧ r.length = n := by
  cases vs with
  | nil => cases h
  | cons a r => exact ⟨a, r, rfl, Nat.succ.inj h⟩
theorem len2 {vs : List Value} (h : vs.length = 2) : ∃ a b, vs = [a, b] := by
  obtain ⟨a, r, rfl, h2⟩ := lenS h
  obtain ⟨b, rfl⟩ := len1 h2
  exact ⟨a, b, rfl⟩
theorem len3 {vs : List Value} (h : vs.length = 3) : ∃ a b c, vs = [a, b, c] := by
  obtain ⟨a, r, rfl, h2⟩ := lenS h
  obtain ⟨b, c, rfl⟩ := len2 h2
  exact ⟨a, b, c, rfl⟩
theorem len4 {vs : List Value} (h : vs.length = 4) : ∃ a b c d, vs = [a, b, c, d] := by
  obtain ⟨a, r, rfl, h2⟩ := lenS h
  obtain ⟨b, c, d, rfl⟩ := len3 h2
  exact ⟨a, b, c, d, rfl⟩

theorem chk152 (P : Params) : ∃ names body, FnText (kf P) 152 f152 names body := by
  refine ⟨_, _, ⟨_, _, rfl, rfl, rfl, rfl, rfl, rfl, rfl, ?_, rfl, rfl, rfl, fun s vs X h => ?_⟩, ?_, ?_, ?_, ?_, rfl⟩
  · rfl
  · obtain ⟨a0, rfl⟩ := len1 h
    exact BindsTo.of_eq rfl
  · rfl
  · decide
  · rfl
  · rfl
theorem chk187 (P : Params) : ∃ names body, FnText (kf P) 187 f187 names body := by
  refine ⟨_, _, ⟨_, _, rfl, rfl, rfl, rfl, rfl, rfl, rfl, ?_, rfl, rfl, rfl, fun s vs X h => ?_⟩, ?_, ?_, ?_, ?_, rfl⟩
  · rfl
  · obtain ⟨a0, a1, rfl⟩ := len2 h
    exact BindsTo.of_eq rfl
  · rfl
  · decide
  · rfl
  · rfl
theorem chk347 (P : Params) : ∃ names body, FnText (kf P) 347 f347 names body := by
  refine ⟨_, _, ⟨_, _, rfl, rfl, rfl, rfl, rfl, rfl, rfl, ?_, rfl, rfl, rfl, fun s vs X h => ?_⟩, ?_, ?_, ?_, ?_, rfl⟩
  · rfl
  · obtain ⟨a0, a1, a2, a3, rfl⟩ := len4 h
    exact BindsTo.of_eq rfl
  · rfl
  · decide
  · rfl
  · rfl
theorem chk54 (P : Params) : ∃ names body, FnText (kf P) 54 f54 names body := by
  refine ⟨_, _, ⟨_, _, rfl, rfl, rfl, rfl, rfl, rfl, rfl, ?_, rfl, rfl, rfl, fun s vs X h => ?_⟩, ?_, ?_, ?_, ?_, rfl⟩
  · rfl
  · obtain ⟨a0, a1, rfl⟩ := len2 h
    exact BindsTo.of_eq rfl
  · rfl
  · decide
  · rfl
  · rfl
theorem chk61 (P : Params) : ∃ names body, FnText (kf P) 61 f61 names body := by
  refine ⟨_, _, ⟨_, _, rfl, rfl, rfl, rfl, rfl, rfl, rfl, ?_, rfl, rfl, rfl, fun s vs X h => ?_⟩, ?_, ?_, ?_, ?_, rfl⟩
  · rfl
  · obtain ⟨a0, a1, rfl⟩ := len2 h
    exact BindsTo.of_eq rfl
  · rfl
  · decide
  · rfl
  · rfl
theorem chk68 (P : Params) : ∃ names body, FnText (kf P) 68 f68 names body := by
  refine ⟨_, _, ⟨_, _, rfl, rfl, rfl, rfl, rfl, rfl, rfl, ?_, rfl, rfl, rfl, fun s vs X h => ?_⟩, ?_, ?_, ?_, ?_, rfl⟩
  · rfl
  · obtain ⟨a0, rfl⟩ := len1 h
    exact BindsTo.of_eq rfl
  · rfl
  · decide
  · rfl
  · rfl
theorem chk75 (P : Params) : ∃ names body, FnText (kf P) 75 f75 names body := by
  refine ⟨_, _, ⟨_, _, rfl, rfl, rfl, rfl, rfl, rfl, rfl, ?_, rfl, rfl, rfl, fun s vs X h => ?_⟩, ?_, ?_, ?_, ?_, rfl⟩
  · rfl
  · obtain ⟨a0, rfl⟩ := len1 h
    exact BindsTo.of_eq rfl
  · rfl
  · decide
  · rfl
  · rfl
theorem chk82 (P : Params) : ∃ names body, FnText (kf P) 82 f82 names body := by
  refine ⟨_, _, ⟨_, _, rfl, rfl, rfl, rfl, rfl, rfl, rfl, ?_, rfl, rfl, rfl, fun s vs X h => ?_⟩, ?_, ?_, ?_, ?_, rfl⟩
  · rfl
  · obtain ⟨a0, rfl⟩ := len1 h
    exact BindsTo.of_eq rfl
  · rfl
  · decide
  · rfl
  · rfl
theorem chk103 (P : Params) : ∃ names body, FnText (kf P) 103 f103 names body := by
  refine ⟨_, _, ⟨_, _, rfl, rfl, rfl, rfl, rfl, rfl, rfl, ?_, rfl, rfl, rfl, fun s vs X h => ?_⟩, ?_, ?_, ?_, ?_, rfl⟩
  · rfl
  · obtain ⟨a0, rfl⟩ := len1 h
    exact BindsTo.of_eq rfl
  · rfl
  · decide
  · rfl
  · rfl
theorem chk173 (P : Params) : ∃ names body, FnText (kf P) 173 f173 names body := by
  refine ⟨_, _, ⟨_, _, rfl, rfl, rfl, rfl, rfl, rfl, rfl, ?_, rfl, rfl, rfl, fun s vs X h => ?_⟩, ?_, ?_, ?_, ?_, rfl⟩
  · rfl
  · obtain ⟨a0, rfl⟩ := len1 h
    exact BindsTo.of_eq rfl
  · rfl
  · decide
  · rfl
  · rfl
theorem chk194 (P : Params) : ∃ names body, FnText (kf P) 194 f194 names body := by
  refine ⟨_, _, ⟨_, _, rfl, rfl, rfl, rfl, rfl, rfl, rfl, ?_, rfl, rfl, rfl, fun s vs X h => ?_⟩, ?_, ?_, ?_, ?_, rfl⟩
  · rfl
  · obtain ⟨a0, a1, a2, rfl⟩ := len3 h
    exact BindsTo.of_eq rfl
  · rfl
  · decide
  · rfl
  · rfl
theorem chk201 (P : Params) : ∃ names body, FnText (kf P) 201 f201 names body := by
  refine ⟨_, _, ⟨_, _, rfl, rfl, rfl, rfl, rfl, rfl, rfl, ?_, rfl, rfl, rfl, fun s vs X h => ?_⟩, ?_, ?_, ?_, ?_, rfl⟩
  · rfl
  · obtain ⟨a0, a1, a2, rfl⟩ := len3 h
    exact BindsTo.of_eq rfl
  · rfl
  · decide
  · rfl
  · rfl
theorem chk208 (P : Params) : ∃ names body, FnText (kf P) 208 f208 names body := by
  refine ⟨_, _, ⟨_, _, rfl, rfl, rfl, rfl, rfl, rfl, rfl, ?_, rfl, rfl, rfl, fun s vs X h => ?_⟩, ?_, ?_, ?_, ?_, rfl⟩
  · rfl
  · obtain ⟨a0, a1, a2, a3, rfl⟩ := len4 h
    exact BindsTo.of_eq rfl
  · rfl
  · decide
  · rfl
  · rfl
theorem chk213 (P : Params) : ∃ names body, FnText (kf P) 213 f213 names body := by
  refine ⟨_, _, ⟨_, _, rfl, rfl, rfl, rfl, rfl, rfl, rfl, ?_, rfl, rfl, rfl, fun s vs X h => ?_⟩, ?_, ?_, ?_, ?_, rfl⟩
  · rfl
  · obtain ⟨a0, a1, a2, a3, rfl⟩ := len4 h
    exact BindsTo.of_eq rfl
  · rfl
  · decide
  · rfl
  · rfl
theorem chk220 (P : Params) : ∃ names body, FnText (kf P) 220 f220 names body := by
  refine ⟨_, _, ⟨_, _, rfl, rfl, rfl, rfl, rfl, rfl, rfl, ?_, rfl, rfl, rfl, fun s vs X h => ?_⟩, ?_, ?_, ?_, ?_, rfl⟩
  · rfl
  · obtain ⟨a0, a1, a2, a3, rfl⟩ := len4 h
    exact BindsTo.of_eq rfl
  · rfl
  · decide
  · rfl
  · rfl
theorem chk225 (P : Params) : ∃ names body, FnText (kf P) 225 f225 names body := by
  refine ⟨_, _, ⟨_, _, rfl, rfl, rfl, rfl, rfl, rfl, rfl, ?_, rfl, rfl, rfl, fun s vs X h => ?_⟩, ?_, ?_, ?_, ?_, rfl⟩
  · rfl
  · obtain ⟨a0, a1, a2, a3, rfl⟩ := len4 h
    exact BindsTo.of_eq rfl
  · rfl
  · decide
  · rfl
  · rfl
theorem chk232 (P : Params) : ∃ names body, FnText (kf P) 232 f232 names body := by
  refine ⟨_, _, ⟨_, _, rfl, rfl, rfl, rfl, rfl, rfl, rfl, ?_, rfl, rfl, rfl, fun s vs X h => ?_⟩, ?_, ?_, ?_, ?_, rfl⟩
  · rfl
  · obtain ⟨a0, a1, a2, a3, rfl⟩ := len4 h
    exact BindsTo.of_eq rfl
  · rfl
  · decide
  · rfl
  · rfl
theorem chk291 (P : Params) : ∃ names body, FnText (kf P) 291 f291 names body := by
  refine ⟨_, _, ⟨_, _, rfl, rfl, rfl, rfl, rfl, rfl, rfl, ?_, rfl, rfl, rfl, fun s vs X h => ?_⟩, ?_, ?_, ?_, ?_, rfl⟩
  · rfl
  · obtain ⟨a0, a1, rfl⟩ := len2 h
    exact BindsTo.of_eq rfl
  · rfl
  · decide
  · rfl
  · rfl
theorem chk300 (P : Params) : ∃ names body, FnText (kf P) 300 f300 names body := by
  refine ⟨_, _, ⟨_, _, rfl, rfl, rfl, rfl, rfl, rfl, rfl, ?_, rfl, rfl, rfl, fun s vs X h => ?_⟩, ?_, ?_, ?_, ?_, rfl⟩
  · rfl
  · obtain ⟨a0, rfl⟩ := len1 h
    exact BindsTo.of_eq rfl
  · rfl
  · decide
  · rfl
  · rfl
theorem chk314 (P : Params) : ∃ names body, FnText (kf P) 314 f314 names body := by
  refine ⟨_, _, ⟨_, _, rfl, rfl, rfl, rfl, rfl, rfl, rfl, ?_, rfl, rfl, rfl, fun s vs X h => ?_⟩, ?_, ?_, ?_, ?_, rfl⟩
  · rfl
  · obtain ⟨a0, a1, rfl⟩ := len2 h
    exact BindsTo.of_eq rfl
  · rfl
  · decide
  · rfl
  · rfl
theorem chk321 (P : Params) : ∃ names body, FnText (kf P) 321 f321 names body := by
  refine ⟨_, _, ⟨_, _, rfl, rfl, rfl, rfl, rfl, rfl, rfl, ?_, rfl, rfl, rfl, fun s vs X h => ?_⟩, ?_, ?_, ?_, ?_, rfl⟩
  · rfl
  · obtain ⟨a0, rfl⟩ := len1 h
    exact BindsTo.of_eq rfl
  · rfl
  · decide
  · rfl
  · rfl
theorem chk326 (P : Params) : ∃ names body, FnText (kf P) 326 f326 names body := by
  refine ⟨_, _, ⟨_, _, rfl, rfl, rfl, rfl, rfl, rfl, rfl, ?_, rfl, rfl, rfl, fun s vs X h => ?_⟩, ?_, ?_, ?_, ?_, rfl⟩
  · rfl
  · obtain ⟨a0, a1, rfl⟩ := len2 h
    exact BindsTo.of_eq rfl
  · rfl
  · decide
  · rfl
  · rfl
theorem chk333 (P : Params) : ∃ names body, FnText (kf P) 333 f333 names body := by
  refine ⟨_, _, ⟨_, _, rfl, rfl, rfl, rfl, rfl, rfl, rfl, ?_, rfl, rfl, rfl, fun s vs X h => ?_⟩, ?_, ?_, ?_, ?_, rfl⟩
  · rfl
  · obtain ⟨a0, rfl⟩ := len1 h
    exact BindsTo.of_eq rfl
  · rfl
  · decide
  · rfl
  · rfl
theorem chk354 (P : Params) : ∃ names body, FnText (kf P) 354 f354 names body := by
  refine ⟨_, _, ⟨_, _, rfl, rfl, rfl, rfl, rfl, rfl, rfl, ?_, rfl, rfl, rfl, fun s vs X h => ?_⟩, ?_, ?_, ?_, ?_, rfl⟩
  · rfl
  · obtain ⟨a0, a1, rfl⟩ := len2 h
    exact BindsTo.of_eq rfl
  · rfl
  · decide
  · rfl
  · rfl
theorem chk361 (P : Params) : ∃ names body, FnText (kf P) 361 f361 names body := by
  refine ⟨_, _, ⟨_, _, rfl, rfl, rfl, rfl, rfl, rfl, rfl, ?_, rfl, rfl, rfl, fun s vs X h => ?_⟩, ?_, ?_, ?_, ?_, rfl⟩
  · rfl
  · obtain ⟨a0, a1, rfl⟩ := len2 h
    exact BindsTo.of_eq rfl
  · rfl
  · decide
  · rfl
  · rfl
theorem chk368 (P : Params) : ∃ names body, FnText (kf P) 368 f368 names body := by
  refine ⟨_, _, ⟨_, _, rfl, rfl, rfl, rfl, rfl, rfl, rfl, ?_, rfl, rfl, rfl, fun s vs X h => ?_⟩, ?_, ?_, ?_, ?_, rfl⟩
  · rfl
  · obtain ⟨a0, a1, rfl⟩ := len2 h
    exact BindsTo.of_eq rfl
  · rfl
  · decide
  · rfl
  · rfl
theorem chk383 (P : Params) : ∃ names body, FnText (kf P) 383 f383 names body := by
  refine ⟨_, _, ⟨_, _, rfl, rfl, rfl, rfl, rfl, rfl, rfl, ?_, rfl, rfl, rfl, fun s vs X h => ?_⟩, ?_, ?_, ?_, ?_, rfl⟩
  · rfl
  · obtain ⟨a0, a1, a2, a3, rfl⟩ := len4 h
    exact BindsTo.of_defaults rfl (X _ _ rfl) rfl rfl rfl
  · rfl
  · decide
  · rfl
  · rfl
theorem chk390 (P : Params) : ∃ names body, FnText (kf P) 390 f390 names body := by
  refine ⟨_, _, ⟨_, _, rfl, rfl, rfl, rfl, rfl, rfl, rfl, ?_, rfl, rfl, rfl, fun s vs X h => ?_⟩, ?_, ?_, ?_, ?_, rfl⟩
  · rfl
  · obtain ⟨a0, a1, rfl⟩ := len2 h
    exact BindsTo.of_eq rfl
  · rfl
  · decide
  · rfl
  · rfl
theorem chk397 (P : Params) : ∃ names body, FnText (kf P) 397 f397 names body := by
  refine ⟨_, _, ⟨_, _, rfl, rfl, rfl, rfl, rfl, rfl, rfl, ?_, rfl, rfl, rfl, fun s vs X h => ?_⟩, ?_, ?_, ?_, ?_, rfl⟩
  · rfl
  · obtain ⟨a0, a1, rfl⟩ := len2 h
    exact BindsTo.of_eq rfl
  · rfl
  · decide
  · rfl
  · rfl
theorem chk404 (P : Params) : ∃ names body, FnText (kf P) 404 f404 names body := by
  refine ⟨_, _, ⟨_, _, rfl, rfl, rfl, rfl, rfl, rfl, rfl, ?_, rfl, rfl, rfl, fun s vs X h => ?_⟩, ?_, ?_, ?_, ?_, rfl⟩
  · rfl
  · obtain ⟨a0, rfl⟩ := len1 h
    exact BindsTo.of_eq rfl
  · rfl
  · decide
  · rfl
  · rfl
theorem chk418 (P : Params) : ∃ names body, FnText (kf P) 418 f418 names body := by
  refine ⟨_, _, ⟨_, _, rfl, rfl, rfl, rfl, rfl, rfl, rfl, ?_, rfl, rfl, rfl, fun s vs X h => ?_⟩, ?_, ?_, ?_, ?_, rfl⟩
  · rfl
  · obtain ⟨a0, a1, rfl⟩ := len2 h
    exact BindsTo.of_eq rfl
  · rfl
  · decide
  · rfl
  · rfl
theorem chk425 (P : Params) : ∃ names body, FnText (kf P) 425 f425 names body := by
  refine ⟨_, _, ⟨_, _, rfl, rfl, rfl, rfl, rfl, rfl, rfl, ?_, rfl, rfl, rfl, fun s vs X h => ?_⟩, ?_, ?_, ?_, ?_, rfl⟩
  · rfl
  · obtain ⟨a0, rfl⟩ := len1 h
    exact BindsTo.of_eq rfl
  · rfl
  · decide
  · rfl
  · rfl
theorem chk430 (P : Params) : ∃ names body, FnText (kf P) 430 f430 names body := by
  refine ⟨_, _, ⟨_, _, rfl, rfl, rfl, rfl, rfl, rfl, rfl, ?_, rfl, rfl, rfl, fun s vs X h => ?_⟩, ?_, ?_, ?_, ?_, rfl⟩
  · rfl
  · obtain ⟨a0, a1, rfl⟩ := len2 h
    exact BindsTo.of_eq rfl
  · rfl
  · decide
  · rfl
  · rfl
theorem chk435 (P : Params) : ∃ names body, FnText (kf P) 435 f435 names body := by
  refine ⟨_, _, ⟨_, _, rfl, rfl, rfl, rfl, rfl, rfl, rfl, ?_, rfl, rfl, rfl, fun s vs X h => ?_⟩, ?_, ?_, ?_, ?_, rfl⟩
  · rfl
  · obtain ⟨a0, rfl⟩ := len1 h
    exact BindsTo.of_eq rfl
  · rfl
  · decide
  · rfl
  · rfl
theorem chk442 (P : Params) : ∃ names body, FnText (kf P) 442 f442 names body := by
  refine ⟨_, _, ⟨_, _, rfl, rfl, rfl, rfl, rfl, rfl, rfl, ?_, rfl, rfl, rfl, fun s vs X h => ?_⟩, ?_, ?_, ?_, ?_, rfl⟩
  · rfl
  · obtain ⟨a0, a1, rfl⟩ := len2 h
    exact BindsTo.of_eq rfl
  · rfl
  · decide
  · rfl
  · rfl
theorem chk449 (P : Params) : ∃ names body, FnText (kf P) 449 f449 names body := by
  refine ⟨_, _, ⟨_, _, rfl, rfl, rfl, rfl, rfl, rfl, rfl, ?_, rfl, rfl, rfl, fun s vs X h => ?_⟩, ?_, ?_, ?_, ?_, rfl⟩
  · rfl
  · obtain ⟨a0, rfl⟩ := len1 h
    exact BindsTo.of_eq rfl
  · rfl
  · decide
  · rfl
  · rfl
end Mine
namespace Mine
/-- the classes' facts, of the fragment alone -/
structure ClsK (K : Frag) (C : Addr) : Prop where
  ga : findIn K (.ref C) "__getattribute__" = some (some (.builtin "object.__getattribute__"))
  gt : findIn K (.ref C) "__getattr__" = some none
  sa : findIn K (.ref C) "__setattr__" = some (some (.builtin "object.__setattr__"))
  plain : plainOver K C = true
  has : hasDictIn K C = true
  keep : keepIn K (.ref C) = true
  makes : makesIn K C = true
  o30 : findIn K (.ref C) (S 30) = some none
  o32 : findIn K (.ref C) (S 32) = some none
  o54 : findIn K (.ref C) (S 54) = some none
  o55 : findIn K (.ref C) (S 55) = some none
theorem cls162 (P : Params) : ClsK (kf P) 162 := ⟨rfl, rfl, rfl, rfl, rfl, rfl, rfl, rfl, rfl, rfl, rfl⟩
theorem cls280 (P : Params) : ClsK (kf P) 280 := ⟨rfl, rfl, rfl, rfl, rfl, rfl, rfl, rfl, rfl, rfl, rfl⟩
theorem cls371 (P : Params) : ClsK (kf P) 371 := ⟨rfl, rfl, rfl, rfl, rfl, rfl, rfl, rfl, rfl, rfl, rfl⟩
noncomputable def MethK (K : Frag) (C k f : Nat) : Prop := f < 1000 ∧ findIn K (.ref C) (S k) = some (some (.ref f)) ∧ typeIn K (.ref f) = some (.type "function")
noncomputable def InitK (K : Frag) (C f : Nat) : Prop := f < 1000 ∧ findIn K (.ref C) "__init__" = some (some (.ref f)) ∧ typeIn K (.ref f) = some (.type "function")
theorem lt1000 {n : Nat} (h : Nat.blt n 1000 = true) : n < 1000 := Nat.le_of_ble_eq_true h
theorem methK (P : Params) : AllL (fun q f => MethK (kf P) q.1 q.2 f) methL := ⟨⟨lt1000 rfl, rfl, rfl⟩, ⟨lt1000 rfl, rfl, rfl⟩, ⟨lt1000 rfl, rfl, rfl⟩, ⟨lt1000 rfl, rfl, rfl⟩, ⟨lt1000 rfl, rfl, rfl⟩, ⟨lt1000 rfl, rfl, rfl⟩, ⟨lt1000 rfl, rfl, rfl⟩, ⟨lt1000 rfl, rfl, rfl⟩, ⟨lt1000 rfl, rfl, rfl⟩, ⟨lt1000 rfl, rfl, rfl⟩, trivial⟩
theorem initK (P : Params) : AllL (InitK (kf P)) initL := ⟨⟨lt1000 rfl, rfl, rfl⟩, ⟨lt1000 rfl, rfl, rfl⟩, ⟨lt1000 rfl, rfl, rfl⟩, trivial⟩
theorem own_k {K : Frag} {C : Addr} (c : ClsK K C) {k : Nat} (h : hasA C k = true) : findIn K (.ref C) (S k) = some none := by
  simp only [hasA, Bool.and_eq_true, Bool.or_eq_true, beq_iff_eq] at h
  rcases h.2 with ((rfl | rfl) | rfl) | rfl
  · exact c.o30
  · exact c.o32
  · exact c.o54
  · exact c.o55
theorem classesOK {X : Cx} {P : Params} (hK : X.K = kf P) : ClassesOK X := by
  intro C hC
  have c : ClsK (kf P) C := by
    rcases hC with rfl | rfl | rfl
    · exact cls162 P
    · exact cls280 P
    · exact cls371 P
  have hm : ∀ k f, methOf C k = some f → MethK (kf P) C k f := fun k f h => allL_get (p := fun (q : Nat × Nat) f => MethK (kf P) q.1 q.2 f) (methK P) h
  have hi : ∀ f, initOf C = some f → InitK (kf P) C f := fun f h => allL_get (initK P) h
  rw [← hK] at c hm hi
  exact ⟨c.ga, c.gt, c.sa, c.plain, c.has, fun k h => own_k c h, hm, c.keep, c.makes, hi⟩
end Mine
namespace Mine
/-- what stands under a global's name -/
noncomputable def GV (X : Cx) (x : Str) (pv : PV) : Prop := ∃ v, (X.mg x = some v ∨ (X.mg x = none ∧ X.mb x = some v)) ∧ RepP X X.g1 v pv
noncomputable def AllG (X : Cx) : List Str → List PV → Prop := fun y1_ y2_ => match y1_, y2_ with
  | x :: xs, p :: ps => GV X x p ∧ AllG X xs ps
  | z1_, z2_ => True
theorem allG_get {X : Cx} {pv : PV} : ∀ {xs : List Str} {ps : List PV} {k : Nat}, xs.length = ps.length → AllG X xs ps → ps[k]? = some pv → ∃ x, xs[k]? = some x ∧ GV X x pv := @fun y1_ y2_ y3_ y4_ y5_ y6_ => match y1_, y2_, y3_, y4_, y5_, y6_ with
  | [], z1_ :: z2_, z3_, hl, z4_, z5_ => by cases hl
  | z1_, [], z2_, z3_, z4_, h => by cases h
  | x :: xs, p :: ps, 0, z1_, a, h => ⟨x, rfl, Option.some.inj h ▸ a.1⟩
  | x :: xs, p :: ps, k + 1, hl, a, h => allG_get (xs := xs) (k := k) (Nat.succ.inj hl) a.2 h
noncomputable def strsOK : List Value → List Nat → Bool := fun y1_ y2_ => match y1_, y2_ with
  | [], [] => true
  | v :: vs, k :: ks => Nat.blt k nStr && v.isStrOf (S k) && strsOK vs ks
  | z1_, z2_ => false
theorem strs_rep {X : Cx} {h : Heap} : ∀ {vs : List Value} {ks : List Nat}, strsOK vs ks = true → RepPs X h vs (ks.map .str) := @fun y1_ y2_ y3_ => match y1_, y2_, y3_ with
  | [], [], z1_ => by simp only [List.map_nil, RepPs]
  | v :: vs, k :: ks, e => by
    obtain ⟨e, e3⟩ := Bool.and_eq_true_iff.mp e
    obtain ⟨e1, e2⟩ := Bool.and_eq_true_iff.mp e
    simp only [List.map_cons, RepPs, RepP]
    exact ⟨v, vs, rfl, ⟨Nat.le_of_ble_eq_true e1, Value.isStrOf_shape e2⟩, strs_rep e3⟩
  | [], z1_ :: z2_, e => by cases e
  | z1_ :: z2_, [], e => by cases e
theorem range_blt : bootBuiltins ("range" : Str) = some (.type "range") := rfl
section
variable {X : Cx} {P : Params} {x : Str} {a : Addr}
theorem gv_fn (XK : (kf P).In X.g1) (G : X.Good) (e : nsIn (kf P) mainGlobals x = some (some (.ref a))) : GV X x (.fnc a) := ⟨_, .inl (mg_of XK G.g e), by simp only [RepP]⟩
theorem gv_cls (XK : (kf P).In X.g1) (G : X.Good) (e : nsIn (kf P) mainGlobals x = some (some (.ref a))) : GV X x (.cls a) := ⟨_, .inl (mg_of XK G.g e), by simp only [RepP]⟩
theorem gv_blt (XK : (kf P).In X.g1) (G : X.Good) {k : Nat} {v : Value} (e : nsIn (kf P) mainGlobals x = some none) (hb : bootBuiltins x = some v) (hv : calV k = some v) (hn : x ≠ "__name__") : GV X x (.cal k) :=
  ⟨v, .inr ⟨mg_none_of XK G.g e, (G.builtins x hn).trans hb⟩, by simp only [RepP]; exact hv⟩
theorem gv_tup (XK : (kf P).In X.g1) (G : X.Good) {vs : List Value} {n : Nat} (ks : List Nat) (e : nsIn (kf P) mainGlobals x = some (some (.ref a))) (ho : (kf P).lookup a = some (tupO vs n)) (hs : strsOK vs ks = true) : GV X x (.tup (ks.map .str)) :=
  ⟨_, .inl (mg_of XK G.g e), by simp only [RepP]; exact ⟨a, vs, n, rfl, XK _ _ ho, strs_rep hs⟩⟩
theorem gv_int (XK : (kf P).In X.g1) (G : X.Good) {i : Int} {t : Tok} (e : nsIn (kf P) mainGlobals x = some (some (.int i t))) : GV X x (.int i) := ⟨_, .inl (mg_of XK G.g e), by simp only [RepP]; exact ⟨t, rfl⟩⟩
end
theorem globOK {X : Cx} {P : Params} (hK : X.K = kf P) (G : X.Good) : GlobOK X := by
  have XK : (kf P).In X.g1 := hK ▸ G.KX
  have A : AllG X gNames gList := ⟨gv_blt XK G rfl rfl rfl (by decide), gv_blt XK G rfl rfl rfl (by decide), gv_blt XK G rfl rfl rfl (by decide), gv_blt XK G rfl rfl rfl (by decide), gv_blt XK G rfl rfl rfl (by decide), gv_blt XK G rfl rfl rfl (by decide), gv_blt XK G rfl rfl rfl (by decide), gv_blt XK G rfl rfl rfl (by decide), gv_tup XK G [3, 4, 5, 6, 7, 8, 9, 10, 11, 12, 13, 14, 15, 16, 17] rfl rfl (by kernel_rfl), gv_tup XK G [18, 19, 20, 21, 22, 23, 24] rfl rfl (by kernel_rfl), gv_int XK G rfl, gv_cls XK G rfl, gv_cls XK G rfl, gv_cls XK G rfl, gv_fn XK G rfl, gv_fn XK G rfl, gv_fn XK G rfl, gv_fn XK G rfl, gv_fn XK G rfl, gv_fn XK G rfl, gv_fn XK G rfl, gv_fn XK G rfl, gv_fn XK G rfl, gv_fn XK G rfl, gv_fn XK G rfl, gv_fn XK G rfl, gv_fn XK G rfl, gv_fn XK G rfl, gv_fn XK G rfl, gv_fn XK G rfl, gv_fn XK G rfl, gv_fn XK G rfl, gv_fn XK G rfl, gv_fn XK G rfl, gv_fn XK G rfl, gv_fn XK G rfl, gv_fn XK G rfl, trivial⟩
  intro k pv hk
  obtain ⟨x, hx, v, hv⟩ := allG_get rfl A hk
  exact ⟨x, v, hx, hv⟩
end Mine
namespace Mine
section
variable {X : Cx} {r : Nat}
theorem sem_mac (G : X.Good) (MC : MacOK X) {Q : MV → List MO → List MO → Prop} {Xf : Prop} (hq : Q (.loc 0) [] macO) : SemFn X r 411 [] [] Q Xf := by
  intro A as s v vs R ac B low S0 hfn hrep hk hx
  obtain ⟨o, fd, L, pos, pos2, ho, hd, ek, eco, eg, eb, ecd, ecode, equal, egl, ebi, ecl, eL, elam, edef, ebind⟩ := MC.it
  have hv : v = .ref 411 := by
    clear B G MC S0 ac eL eb ebi ebind ecd ecl eco ecode edef eg egl ek elam equal hd hk ho hq hrep hx low o pos pos2 vs
    rcases hfn with ⟨_, h⟩ | ⟨k, d, o', h1, _⟩
    · exact h
    · exact not_big h1 (by decide)
  clear ebi hfn
  subst hv
  have XK := B.keepK G
  have hvs : vs = [] := by simpa only [RepMs] using hrep
  clear hrep
  subst hvs
  have has : as = [] := List.length_eq_zero_iff.mp S0.1
  clear S0
  subst has
  have hnum : A.depth < recursionLimit := ac.num
  refine codeAny_call_function hnum (XK _ _ ho) hd eco eg eb (codeRec_of XK ecd) ?_
  refine ebind s _ _ _ _ ?_
  rw [ecl]
  refine wpAny_newFunctionEnv_cells ek (fun x hx => nomatch hx) (fun env eenv s1 h1 => ?_)
  have I := h1.toInCall
  clear XK ac eb ebind ecd ecl eco eg ek h1 hd hnum
  obtain ⟨hh1, tk1, rfl⟩ := I.same
  have k1 := I.keep
  have B1 : Base X hh1 := B.keep k1
  have e1 : env.globals = mainGlobals := by rw [eenv]; exact egl
  have e2 : env.code = .ref 410 := by rw [eenv]; exact ecode
  have e3 : env.qual ++ "<lambda>" = lamQual := by rw [eenv]; exact equal
  refine ⟨G.nolimit.keeps B1.1, ?_⟩
  refine codeAny_func (wpAny_execs_cons (wpAny_Return_some (wpAny_Dict_pairs (knd := PySem.strKind X.prog X.w) (shape_lams env pos L) ?_ ?_ ?_)))
  · intro q
    have := congrArg List.length eL
    simp only [List.length_map, List.length_cons, List.length_nil] at this
    have := congrArg List.length q
    simp only [List.length_map, List.length_nil] at this
    omega
  · have := congrArg List.length eL
    simp only [List.length_map, List.length_cons, List.length_nil] at this
    simp only [List.length_map]
    omega
  have kD : ∀ b o, hh1.get? b = some o → (hh1.push { cls := .type "dict", data := .dict #[] }).get? b = some o := fun b o e => Heap.get?_push_of_some _ e
  refine pairs_lams (s := { s with heap := hh1.push { cls := .type "dict", data := .dict #[] }, toks := tk1 }) G MC e1 e2 e3 L 0 (B1.keep kD) (fun j t hj => by rw [Nat.zero_add]; exact elam j t hj) edef fun vs fs h2 tk2 k2 B2 lv nd fr => ?_
  have hLlen : L.length = 6 := by
    have := congrArg List.length eL
    simpa only [List.length_map, List.length_cons, List.length_nil] using this
  have hflen : fs.length = 6 := (lamVs_len lv).symm.trans hLlen
  have hpt : PT < hh1.objs.size := by
    clear B B2 G I MC e1 e2 e3 eL ecode edef eenv egl elam env equal fd fr hLlen hflen hk ho hq hx k1 k2 kD low lv nd o pos pos2 s tk1 tk2 vs
    obtain ⟨ps, e, _⟩ := B1.2
    exact Heap.lt_size e
  have hD2 : h2.get? hh1.objs.size = some (dictOf [] 0) := k2 _ _ (Nat.ne_of_gt hpt) (Heap.get?_push_size _ rfl)
  have hzip : ((L.zip fs).map fun p => (S p.1.k, Value.ref p.2)) = (([62, 63, 64, 65, 66, 67] : List Nat).zip fs).map fun p => (S p.1, Value.ref p.2) := by
    rw [← eL, List.zip_map_left, List.map_map]
    rfl
  have hkeys : (((L.zip fs).map fun p => (S p.1.k, Value.ref p.2)).map (·.1)).Nodup := by
    rw [hzip]
    obtain ⟨a, b, c, d, e, f, hf6⟩ : ∃ a b c d e f, fs = [a, b, c, d, e, f] := by
      match fs, hflen with
      | [a, b, c, d, e, f], z1_ => exact ⟨a, b, c, d, e, f, rfl⟩
    rw [hf6]
    show ([S 62, S 63, S 64, S 65, S 66, S 67] : List Str).Nodup
    decide +kernel
  refine ⟨_, lamVs_carries lv, ⟨_, #[], 0, hD2, ⟨rfl, rfl, rfl⟩, rfl, fun e he => by simp at he, .nil, List.nodup_nil⟩, fun h3 hm hs => ?_⟩
  rw [merged_nil_of_nodup _ hkeys, hzip] at hm
  clear B1 G e1 e2 e3 eL ecode edef eenv egl elam equal fd hLlen hkeys hzip pos2
  obtain ⟨od, es, ep, hod, hex, hdat, hko, hpr, _⟩ := hm
  have hext := hs.extBut
  have hne : ∀ b o, h2.get? b = some o → Imm o → b ≠ hh1.objs.size := fun b o e i q => by
    rw [q, hD2] at e
    clear B B2 I MC env fr hD2 hdat hex hext hflen hk hko ho hod hpr hpt hq hs hx k1 k2 kD low lv nd od pos q s tk1 tk2 vs
    cases e
    exact frObj_notImm ⟨_, _, rfl⟩ i
  have tk3 : TKeep h2 h3 := fun b o e i => hext b o (hne b o e i) e
  have hs0 : ∀ b o, s.heap.get? b = some o → b ≠ hh1.objs.size := fun b o e q => by
    have := Heap.lt_size (k1 b o e)
    rw [q] at this
    exact Nat.lt_irrefl _ this
  have keepAll : ∀ b o, b ≠ PT → s.heap.get? b = some o → h3.get? b = some o := fun b o n e => hext b o (hs0 b o e) (k2 b o n (kD b o (k1 b o e)))
  have B3 : Base X h3 := by
    refine ⟨fun b o e => keepAll b o (fun q => by rw [q, MC.hP] at e; cases e) (B.1 b o e), ?_⟩
    clear B I MC env fr hD2 hdat hex hflen hk hko hne ho hod hpr hq hs hs0 hx k1 k2 kD keepAll low lv nd o od vs
    obtain ⟨ps, e, ht, hc⟩ := B2.2
    refine ⟨ps, hext _ _ (Nat.ne_of_lt hpt) e, ht, fun pos cv q => ?_⟩
    clear A B2 L Q R Xf e ep es hext hpt ht s tk1 tk2
    have q_ := hc pos cv q
    clear hc hh1 q
    obtain ⟨c, rfl, hr⟩ := q_
    exact ⟨c, rfl, codeRec_keep tk3 hr⟩
  have hLlt := I.ns.lt
  dsimp only at hLlt
  have hsz : s.heap.objs.size ≤ hh1.objs.size := Nat.le_trans I.fresh (Nat.le_of_lt hLlt)
  have hlowD : X.g1.objs.size ≤ hh1.objs.size := Nat.le_trans low hsz
  have hfs : ∀ f ∈ fs, hh1.objs.size + 1 ≤ f := fun f hf => by
    have := fr f hf
    rw [Heap.size_push] at this
    exact this
  refine hk (.ref hh1.objs.size) (.loc 0) [] macO (hh1.objs.size :: fs) _ ⟨B3, ⟨?_, ?_, fun i o hi => ?_⟩, rfl, fun b o e z_ n => ⟨o.slots, keepAll b o n e, fun z_ => rfl⟩, fun x hx => ?_, ⟨h3, _, rfl⟩⟩ ?_ hq
  · show (hh1.objs.size :: fs).length = 7
    rw [List.length_cons, hflen]
  · exact List.nodup_cons.mpr ⟨fun hm => Nat.not_succ_le_self _ (hfs _ hm), nd⟩
  · clear B B2 B3 I MC fr hD2 hLlt hk hne hpt hq hs hs0 hsz hx k1 k2 kD keepAll low nd pos
    cases i with
    | zero =>
      clear A Q R Xf env hext hfs ho lv tk3
      cases hi
      refine ⟨hh1.objs.size, od, rfl, hlowD, hod, es.toList, ep, ?_, ?_⟩
      · clear L h2 hflen hko hlowD hod hpr o s tk1 tk2 vs
        obtain ⟨oc, odd, oda, osl⟩ := od
        clear h3 hh1
        obtain ⟨q1, q2, q3⟩ := hex
        dsimp only at q1 q2 q3 hdat
        subst q1 q2 q3 hdat
        rfl
      · have := reps_of (X := X) (as := hh1.objs.size :: fs) (h := h3) (i := 1) hpr (fun e he => hko e (by simpa using he)) (by simp [hflen]) (by decide) (fun j f hj => by rw [Nat.add_comm]; exact hj)
        rw [hflen] at this
        exact this
    | succ i =>
      have hi' : i < 6 := by
        have := (List.getElem?_eq_some_iff.mp hi).1
        exact Nat.lt_of_succ_lt_succ (show i + 1 < 7 from this)
      have hfi : fs[i]? = some fs[i] := List.getElem?_eq_getElem (by omega)
      clear A Q R Xf env hdat hex hko hod hpr od
      obtain ⟨oL, h5, h6⟩ := lamVs_at lv hfi
      rw [Nat.zero_add] at h6
      have hmem := List.getElem_mem (l := fs) (n := i) (by omega)
      have hgt := hfs _ hmem
      have ho : o = .fn i := by
        rcases lt6 hi' with ((((rfl | rfl) | rfl) | rfl) | rfl) | rfl <;> (cases hi; rfl)
      clear ep es hfs hi hmem lv
      subst ho
      exact ⟨fs[i], oL, by simpa using hfi, Nat.le_trans hlowD (Nat.le_of_succ_le hgt), hext _ _ (fun q => by rw [q] at hgt; exact Nat.not_succ_le_self _ hgt) h5, RepO.keep (X := X) (as := hh1.objs.size :: fs) tk3 (x := .fn i) h6⟩
  · have hx' : s.heap.objs.size ≤ x := by
      clear B B2 B3 I MC fr hD2 hLlt hdat hex hext hflen hk hko hlowD hne ho hod hpr hpt hq hs hs0 k1 k2 kD keepAll low lv nd o od pos tk1 tk2 tk3 vs
      have q_ := List.mem_cons.mp hx
      clear L Q env ep es h2 h3
      rcases q_ with rfl | hx
      · exact hsz
      · exact Nat.le_trans hsz (Nat.le_of_succ_le (hfs x hx))
    clear B B2 B3 I MC fr hD2 hLlt hdat hex hext hflen hfs hk hko hlowD hne ho hod hpr hpt hq hs hs0 hsz hx k1 k2 kD keepAll low lv nd od pos tk1 tk2 tk3 vs
    cases z : s.heap.get? x with
    | none => rfl
    | some o => exact absurd (Heap.lt_size z) (Nat.not_lt.mpr hx')
  · simp only [RepM]
    exact ⟨hh1.objs.size, rfl, rfl⟩
end
end Mine
namespace Mine
noncomputable def AllF (P : Params) : List (Nat × List Nat × Nat × List MS) → Prop := fun y1_ => match y1_ with
  | [] => True
  | p :: r => (∃ names body, FnText (kf P) p.1 p.2 names body) ∧ AllF P r
theorem allF_get {P : Params} {a : Nat} {f : List Nat × Nat × List MS} : ∀ {l : List (Nat × List Nat × Nat × List MS)}, AllF P l → l.lookup a = some f → ∃ names body, FnText (kf P) a f names body := @fun y1_ y2_ y3_ => match y1_, y2_, y3_ with
  | [], z1_, e => by cases e
  | (b, g) :: r, h, e => by
    rw [List.lookup_cons] at e
    clear y2_ y3_
    cases hb : a == b with
    | true =>
      rw [hb] at e
      clear y1_
      cases e
      rw [eq_of_beq hb]
      exact h.1
    | false =>
      rw [hb] at e
      exact allF_get h.2 e
theorem fnText (P : Params) (a : Nat) (f : List Nat × Nat × List MS) (h : fnOf a = some f) : ∃ names body, FnText (kf P) a f names body :=
  allF_get (l := fnList) ⟨chk152 P, chk187 P, chk347 P, chk54 P, chk61 P, chk68 P, chk75 P, chk82 P, chk103 P, chk173 P, chk194 P, chk201 P, chk208 P, chk213 P, chk220 P, chk225 P, chk232 P, chk291 P, chk300 P, chk314 P, chk321 P, chk326 P, chk333 P, chk354 P, chk361 P, chk368 P, chk383 P, chk390 P, chk397 P, chk404 P, chk418 P, chk425 P, chk430 P, chk435 P, chk442 P, chk449 P, trivial⟩ h
set_option tactic.hygienic true in
theorem psOK_pk {names : Names} {ps : List Nat} (h : psOK names ps = true) : (∀ i ∈ ps, ∃ x k, names[i]? = some (x, k) ∧ (k = .local ∨ k = .cell)) ∧ ps.Nodup := by
  simp only [psOK, Bool.and_eq_true] at h
  refine ⟨fun i hi => ?_, nodup_of h.2⟩
  have := List.all_eq_true.mp h.1 i hi
  split at this
  · rename_i x e
    exact ⟨x, _, e, .inl rfl⟩
  · rename_i x e
    exact ⟨x, _, e, .inr rfl⟩
  · clear h hi ps
    cases this
noncomputable def LamsOK (X : Cx) : Prop := ∀ k e, lamBody k = some e → ∃ names body, LamOK X k names body ∧ er names 40 body = e ∧ names.length = lamLen k
theorem specOK {X : Cx} {P : Params} (hK : X.K = kf P) (G : X.Good) (RO : RangeOK X) (XO : ExcOK X) (MC : MacOK X) (LO : LamsOK X) : ∀ n, SpecOK X (SpF X.ns n) := fun y1_ => match y1_ with
  | 0 => fun r a args σp Q Xf h => h.elim
  | n + 1 => fun r a args σp Q Xf h => by
    obtain ⟨hr, h⟩ := h
    have W : Wld X (SpF X.ns n) := ⟨G, globOK hK G, classesOK hK, specOK hK G RO XO MC LO n⟩
    by_cases ha : a < 1000
    · rw [if_pos ha] at h
      have isref : ∀ h v, FnAt X h a v → v = .ref a := fun h v hf => by
        clear G LO MC RO W XO hK hr y1_
        rcases hf with ⟨_, e⟩ | ⟨k, d, o', h1, _⟩
        · exact e
        · exact not_big h1 ha
      by_cases hm : a = 411
      · clear LO RO W XO hK ha hr y1_
        subst hm
        rw [if_pos rfl] at h
        clear P n
        obtain ⟨rfl, rfl, hq⟩ := h
        refine ⟨fun hh v B hf => ?_, sem_mac G MC hq⟩
        rw [isref hh v hf]
        exact .K (B.keepK G) MC.keep
      · rw [if_neg hm] at h
        obtain ⟨⟨ps, ln, fbody⟩, hf, hl, hb⟩ := onP_elim h
        obtain ⟨names, body, FT⟩ := fnText P a _ hf
        obtain ⟨pk, pn⟩ := psOK_pk FT.pk
        refine ⟨fun hh v B hfa => ?_, ?_⟩
        · rw [isref hh v hfa]
          exact .K (B.keepK G) (by rw [hK]; exact FT.keep)
        · refine sem_def (ps := ps) G ⟨by rw [hK]; exact FT.it, by rw [hK]; exact FT.keep, FT.nodup, pk, pn⟩ (by omega) hl (fun env E => ?_) ha
          have e2 := FT.len
          have e3 := FT.er
          dsimp only at e2 e3 hb
          rw [e2]
          refine sndB (sndS W RO XO 40) E body ?_
          rw [e3]
          exact hb
    · rw [if_neg ha] at h
      obtain ⟨e, he, hl, hb⟩ := onP_elim h
      obtain ⟨names, body, LK, e1, e2⟩ := LO _ _ he
      have hak : 1000 + (a - 1000) = a := Nat.add_sub_cancel' (Nat.not_lt.mp ha)
      refine ⟨fun hh v B hfa => ?_, ?_⟩
      · clear B G LK LO MC RO W XO e1 e2 h hK hak hb he hl hr n names r y1_ σp
        rcases hfa with ⟨h1, _⟩ | ⟨k, d, o, _, rfl, ho, hla⟩
        · exact absurd h1 ha
        · clear P Q Xf args body e ha
          obtain ⟨params, body', scope, pm, c', ctv, _, rfl, _⟩ := hla
          exact .func ho rfl
      · rw [← hak]
        refine sem_lam G LK (by omega) hl fun env E => ?_
        rw [e2]
        refine (snd W 40).E body names (r - 1) env Xf _ _ E ?_
        rw [e1]
        exact hb
end Mine
namespace Mine
theorem exc_clsK (P : Params) : ExcCls (kf P) := ⟨⟨_, _, _, _, _, _, _, _, _, _, _, _, _, _, rfl⟩, rfl, rfl, rfl, rfl, rfl, rfl, rfl⟩
theorem exc_fnK (P : Params) : ExcFn (kf P) := by
  refine ⟨⟨_, _, _, _, _, _, _, _, _, _, _, _, _, _, _, _, rfl, rfl, rfl, rfl, rfl, rfl, rfl, rfl, ?_, rfl, rfl, rfl, fun s v1 v2 X => ?_⟩⟩
  · rfl
  · exact BindsTo.of_defaults rfl (X _ _ rfl) rfl rfl rfl
noncomputable def lamsOf : Option Obj → List Expr := fun y1_ => match y1_ with
  | some o => match o.data with
    | .func fd => match fd.body with
      | .stmts [.Return (some (.Dict z1_ vs z2_)) z3_] => vs
      | z1_ => []
    | z1_ => []
  | none => []
noncomputable def lamOf (K : Frag) (i : Nat) : Option (Arguments × Expr × Scope) := match (lamsOf (K.lookup 411))[i]? with
  | some (.Lambda p b s z1_) => some (p, b, s)
  | z1_ => none
theorem mac_it (P : Params) : MacIt (kf P) (lamOf (kf P)) := by
  refine ⟨_, _, [⟨62, _, _, _, _, _, _⟩, ⟨63, _, _, _, _, _, _⟩, ⟨64, _, _, _, _, _, _⟩, ⟨65, _, _, _, _, _, _⟩, ⟨66, _, _, _, _, _, _⟩, ⟨67, _, _, _, _, _, _⟩], _, _, rfl, rfl, rfl, rfl, rfl, rfl, ?_, rfl, ?_, rfl, rfl, rfl, rfl, fun i t h => ?_, fun t ht env => ?_, fun s => BindsTo.of_eq rfl⟩
  · rfl
  · rfl
  · match i, h with
    | 0, h => cases h; rfl
    | 1, h => cases h; rfl
    | 2, h => cases h; rfl
    | 3, h => cases h; rfl
    | 4, h => cases h; rfl
    | 5, h => cases h; rfl
    | z1_ + 6, h => cases h
  · simp only [List.mem_cons, List.not_mem_nil, or_false] at ht
    rcases ht with rfl | rfl | rfl | rfl | rfl | rfl <;> exact ⟨rfl, rfl⟩
theorem lams_ok {X : Cx} {P : Params} (h : X.lam = lamOf (kf P)) : LamsOK X := by
  intro k e he
  match k, he with
  | 0, he => cases he; exact ⟨_, _, ⟨⟨_, _, by rw [h]; rfl, rfl, rfl, rfl, rfl, fun pm c' ctv s v => BindsTo.of_eq rfl⟩, by decide, _, rfl⟩, rfl, rfl⟩
  | 1, he => cases he; exact ⟨_, _, ⟨⟨_, _, by rw [h]; rfl, rfl, rfl, rfl, rfl, fun pm c' ctv s v => BindsTo.of_eq rfl⟩, by decide, _, rfl⟩, rfl, rfl⟩
  | 2, he => cases he; exact ⟨_, _, ⟨⟨_, _, by rw [h]; rfl, rfl, rfl, rfl, rfl, fun pm c' ctv s v => BindsTo.of_eq rfl⟩, by decide, _, rfl⟩, rfl, rfl⟩
  | 3, he => cases he; exact ⟨_, _, ⟨⟨_, _, by rw [h]; rfl, rfl, rfl, rfl, rfl, fun pm c' ctv s v => BindsTo.of_eq rfl⟩, by decide, _, rfl⟩, rfl, rfl⟩
  | 4, he => cases he; exact ⟨_, _, ⟨⟨_, _, by rw [h]; rfl, rfl, rfl, rfl, rfl, fun pm c' ctv s v => BindsTo.of_eq rfl⟩, by decide, _, rfl⟩, rfl, rfl⟩
  | 5, he => cases he; exact ⟨_, _, ⟨⟨_, _, by rw [h]; rfl, rfl, rfl, rfl, rfl, fun pm c' ctv s v => BindsTo.of_eq rfl⟩, by decide, _, rfl⟩, rfl, rfl⟩
theorem mac_keep (P : Params) : keepIn (kf P) (.ref 411) = true := rfl
theorem no_tabsK (P : Params) : noTabs (kf P) = true := rfl
theorem mfK (P : Params) : nsIn (kf P) mainGlobals nMF = some (some (.ref 45)) ∧ nsIn (kf P) mainGlobals nExc = some none ∧ nsIn (kf P) mainGlobals ("range" : Str) = some none ∧ nsIn (kf P) mainGlobals (Str.ofString "law") = some (some (.ref 449)) := ⟨rfl, rfl, rfl, rfl⟩
end Mine
namespace Mine
/-! ## the join -/
@[reducible] noncomputable def tabs1 : List (Addr × Addr) := [(410, 406)]
@[reducible] noncomputable def cx (prog : Program) (w : World) (K : Frag) (h : Heap) (mg mb : Str → Option Value) (ns : List Int) (a : Addr) : Cx :=
  ⟨prog, w, K, ghostOf h tabs1, mg, mb, ns, a, lamOf K⟩
section
variable {prog p : Program} {w : World} {s₁ : Shared} {mg mb : Str → Option Value} {ns : List Int} {a : Addr} {vs : List Value} {loose : List Str} {mean : ExcName → Option Value}
theorem cx_good (KX : (kf w.params).In s₁.heap) (hT : TabsAt tabs1 s₁.heap) (T : Top p loose mean mg mb s₁.heap) (hL : s₁.heap.IsList a vs.toArray) (hI : IntsAre vs ns) (hn : ns.length ≤ 63) : (cx prog w (kf w.params) s₁.heap mg mb ns a).Good := by
  have hPg : (ghostOf s₁.heap tabs1).get? PT = none := hideAll_none _ (.head _)
  refine ⟨ghost_K hT KX (no_tabsK _), ghost_ns hT T.g, ghost_ns hT T.b, ?_, T.builtins, ?_, ⟨vs, ghost_list hT hL, hI⟩, Nat.le_trans hn (by decide), ?_⟩
  · obtain ⟨mc, q, r⟩ := T.nolimit
    exact ⟨mc, ghost_ns hT q, r⟩
  · obtain ⟨bm, ob, b1, b2, b3, b4, b5, b6⟩ := T.bmain
    have e3 : (ghostOf s₁.heap tabs1).get? bm = some ob := ghost_get hT b3 (fun q => by rw [q] at b4; cases b4)
    refine ⟨bm, ob, b1, b2, fun q => ?_, fun q => ?_, e3, b4, b5, b6⟩
    · obtain ⟨o, es, ep, e, hd, _⟩ := T.g
      rw [q, e] at b3
      cases b3
      rw [hd] at b6
      cases b6
    · rw [q, hPg] at e3
      cases e3
  · show PT < (ghostOf s₁.heap tabs1).objs.size
    rw [hideAll_size]
    exact Heap.lt_size (hT _ (.head _)).2
theorem law_runs (KX : (kf w.params).In s₁.heap) (hT : TabsAt tabs1 s₁.heap) (T : Top p loose mean mg mb s₁.heap) (hL : s₁.heap.IsList a vs.toArray) (hI : IntsAre vs ns) (hn : ns.length ≤ 63) {R : Result → Shared → Prop}
    (hk : ∀ h' tk, (∀ b o, (ghostOf s₁.heap tabs1).get? b = some o → h'.get? b = some o) → GrownAt 406 h' → R (.ok (.ret (.bool true))) { s₁ with heap := h', toks := tk }) :
    codeAny (model prog w) callerA (.call (.ref 449) ⟨[.ref a], []⟩) R s₁ := by
  have G : (cx prog w (kf w.params) s₁.heap mg mb ns a).Good := cx_good KX hT T hL hI hn
  have hP : (cx prog w (kf w.params) s₁.heap mg mb ns a).g1.get? PT = none := hideAll_none _ (.head _)
  obtain ⟨m1, m2, m3, m4⟩ := mfK w.params
  have RO : RangeOK (cx prog w (kf w.params) s₁.heap mg mb ns a) := ⟨mg_none_of KX T.g m3, (T.builtins _ (by decide)).trans range_blt⟩
  have XO : ExcOK (cx prog w (kf w.params) s₁.heap mg mb ns a) := ⟨exc_clsK _, exc_fnK _, mg_of KX T.g m1, mg_none_of KX T.g m2, (T.builtins _ (by decide)).trans rfl⟩
  have MC : MacOK (cx prog w (kf w.params) s₁.heap mg mb ns a) := ⟨mac_it _, hP, (ghost_code hT).1, mac_keep _⟩
  have LO : LamsOK (cx prog w (kf w.params) s₁.heap mg mb ns a) := lams_ok rfl
  have SO := specOK (X := cx prog w (kf w.params) s₁.heap mg mb ns a) rfl G RO XO MC LO 80
  have S := (SO 320 449 [.p .scr] [] (fun m z_ z_ => m = mB true) False (a449 (by decide) (by decide) rfl)).2
  have B : Base (cx prog w (kf w.params) s₁.heap mg mb ns a) s₁.heap := ⟨fun b o e => of_hideAll _ e, #[], (hT _ (.head _)).2, trivial, fun pos cv q => by cases q⟩
  refine S callerA [] s₁ (.ref 449) [.ref a] R ⟨rfl, by decide, by decide, ⟨[], rfl, fun e he => nomatch he⟩, (fun b hb => nomatch hb), (fun b hb => nomatch hb)⟩ B ?_ ⟨rfl, List.nodup_nil, fun i o e => by simp at e⟩ (.inl ⟨by decide, rfl⟩) ?_ (fun u m σp' σn asn s' C hu hm => ?_) (fun h => h.elim)
  · show (ghostOf s₁.heap tabs1).objs.size ≤ _
    rw [hideAll_size]
    exact Nat.le_refl _
  · simp only [RepMs, RepM, RepP]
    exact ⟨_, _, rfl, rfl, rfl⟩
  · subst hm
    simp only [RepM, RepP] at hu
    obtain ⟨rfl, _⟩ := hu
    obtain ⟨h', tk, rfl⟩ := C.same
    obtain ⟨ps, e, _⟩ := C.base.2
    exact hk h' tk C.base.1 ⟨ps, e⟩
end
end Mine
namespace Mine
set_option tactic.hygienic true in
set_option maxHeartbeats 2000000 in
theorem joined : PySem.Challenge.rw_pc0210_01.Holds := Mine.head (by
  intro w s₀ s₁ mg mb G Y fa o pm cd doc dV kV ho hd hcd hD hmg hg args vals as hpre hlay hrd hwl hlo
  have KX := km_in_of Y
  have hT8 := km_tabs_of Y 406 (.head _)
  have T := G.T
  clear hd hcd hD
  have hfa : fa = 449 := by
    have e := mg_of KX T.g (mfK w.params).2.2.2
    have hmg' : mg (Str.ofString "law") = some (.ref fa) := hmg
    rw [hmg'] at e
    cases e
    rfl
  subst hfa
  clear hmg
  wrow_args hpre hlay hrd hwl hlo
  rename_i ns _ _ _ _ _ _ a vs _ hL _ _ _ hI _ hlen _
  have hT9 : TabsAt tabs1 s₁.heap := List.forall_mem_cons.mpr ⟨⟨codeHd_of_K (c := 410) (P := 406) KX (by kernel_rfl), hT8⟩, fun _ h => nomatch h⟩
  refine enter_call (kn_post hT9 (fun _ _ => rfl) ?_)
  refine law_runs KX hT9 T hL hI (by omega) fun h' tk k gr => ?_
  refine ⟨⟨.inl ⟨_, _, _, rfl, fun _ => rfl, .bool true, ?_, fun _ => ⟨List.nodup_nil, fun _ q => nomatch q⟩⟩, k, rfl, hg⟩, gr, trivial⟩
  wrow_post)
end Mine
set_option maxHeartbeats 2000000 in
theorem PySem.Challenge.cw_pc0210_01_holds : PySem.Challenge.rw_pc0210_01.Holds := by
  exact Mine.joined
