import PyProof.Rows.All
import Wide.All
import OpenK.AllK
import Wide.FinOn
import HandS.ForMost
import HandS.Exc
import HandS.Wide
import HandS.Flow
import HandS.CallSlots
import HandS.Bytes
import HandS.IsInst
import HandS.RaiseMore
import PyProof.ReprRoads
import HandS.Iter
import HandS.Comp
import HandS.Defaults
import HandS.HeadWalk
import HandS.Text
import HandS.Dict
import HandS.Ends
import HandS.Head0
import HandS.Head1
import HandS.Head2
import HandS.HeadEnd
import HandS.HeadHook1
import HandS.HeadHook2
import PySem.Challenge.RW_walkbox_k11_names_and_words
set_option Elab.async false
set_option linter.all false
set_option maxRecDepth 100000
set_option autoImplicit false
/-! FEa: values, store, syntax of the flat evaluator; the relation to the abstract heap. -/
namespace FE
open PySem L2

/-! ### values, objects -/
inductive MV where
  | non | bl (b : Bool) | int (i : Int) | str (s : Str) | tup (xs : List MV) | ref (i : Nat) | fn (g : Nat)
instance : Inhabited MV := ⟨.non⟩
inductive MO where
  | lst (xs : List MV)
  | dk (kvs : List (Key × MV))
  | dt (kvs : List (List Key × MV))
  | ins (c : Nat) (fs : List (Nat × MV))
  | xd (fs : List (Nat × MV))
  | lk (o : MO)
abbrev Store := List MO
/-- an exception: its class, its fields' dict -/
structure Exn where
  cls : Nat
  d : Option Nat
inductive Out (α : Type) where
  | ok (a : α) (S : Store)
  | exc (e : Exn) (S : Store)
  | stuck
def Out.bind {α β : Type} : Out α → (α → Store → Out β) → Out β
  | .ok a S, f => f a S
  | .exc e S, _ => .exc e S
  | .stuck, _ => .stuck
@[simp] theorem Out.bind_ok {α β : Type} (a : α) (S : Store) (f : α → Store → Out β) : (Out.ok a S).bind f = f a S := rfl
@[simp] theorem Out.bind_exc {α β : Type} (e : Exn) (S : Store) (f : α → Store → Out β) : (Out.exc e S : Out α).bind f = .exc e S := rfl
@[simp] theorem Out.bind_stuck {α β : Type} (f : α → Store → Out β) : (Out.stuck : Out α).bind f = .stuck := rfl

/-! ### the ground: what of the text is known -/
structure GI where
  K : PySem.W.Frag
  nm : Nat → Str
  ad : Nat → Addr
  inj : ∀ a b, nm a = nm b → a = b

section
variable (G : GI) (ρ : List Addr) (H : Hp)
mutual
def VRel : MV → V → Prop
  | .non, w => w = .non
  | .bl b, w => w = .bl b
  | .int i, w => w = .int i
  | .str s, w => w = .str s
  | .tup xs, w => ∃ p vs, w = .ref p ∧ SqT G.K H p vs ∧ VRels xs vs
  | .ref i, w => ∃ a, ρ[i]? = some a ∧ w = .ref a
  | .fn g, w => w = .ref (G.ad g)
def VRels : List MV → List V → Prop
  | [], vs => vs = []
  | x :: xs, vs => ∃ v r, vs = v :: r ∧ VRel x v ∧ VRels xs r
end
def KRel {κ : Type} : List (κ × MV) → List (κ × V) → Prop
  | [], vs => vs = []
  | (k, x) :: xs, vs => ∃ v r, vs = (k, v) :: r ∧ VRel G ρ H x v ∧ KRel xs r
def FRel : List (Nat × MV) → List (Str × V) → Prop
  | [], vs => vs = []
  | (k, x) :: xs, vs => ∃ v r, vs = (G.nm k, v) :: r ∧ VRel G ρ H x v ∧ FRel xs r
/-- an object's content -/
def CRel : MO → HO → Prop
  | .lst xs, o => ∃ vs, o = .lst vs ∧ VRels G ρ H xs vs
  | .dk kvs, o => ∃ ws, o = .dK ws ∧ KRel G ρ H kvs ws
  | .dt kvs, o => ∃ ws, o = .dT ws ∧ KRel G ρ H kvs ws
  | .ins c fs, o => ∃ dx gs, o = .ins (G.ad c) dx gs ∧ FRel G ρ H fs gs
  | .xd fs, o => ∃ gs, o = .xd gs ∧ FRel G ρ H fs gs
  | _, _ => False
/-- the object at an address -/
def ORel (a : Addr) : MO → Prop
  | .lk o => ∃ ob u, H a = some (.frz ob u) ∧ CRel G ρ H o u
  | o => ∃ u, H a = some u ∧ CRel G ρ H o u
end
/-- what the heap's growing keeps -/
structure Ext (H H' : Hp) : Prop where
  tup : ∀ a xs, H a = some (.tup xs) → H' a = some (.tup xs)
  frz : ∀ a o u, H a = some (.frz o u) → H' a = some (.frz o u)
theorem Ext.refl (H : Hp) : Ext H H := ⟨fun _ _ h => h, fun _ _ _ h => h⟩
theorem Ext.trans {H H1 H2 : Hp} (a : Ext H H1) (b : Ext H1 H2) : Ext H H2 := ⟨fun x y h => b.tup x y (a.tup x y h), fun x o u h => b.frz x o u (a.frz x o u h)⟩
theorem Ext.new {H : Hp} {p : Addr} {o : HO} (h : H p = none) : Ext H (upd H p o) :=
  ⟨fun a u e => by rw [upd_ne (ne_of_none e h)]; exact e, fun a o' u e => by rw [upd_ne (ne_of_none e h)]; exact e⟩
def isFix : HO → Bool
  | .tup _ => true
  | .frz _ _ => true
  | _ => false
/-- a changed object that is no tuple and not locked -/
theorem Ext.upd {H : Hp} {p : Addr} {o u : HO} (h : H p = some o) (f : isFix o = false) : Ext H (L2.upd H p u) :=
  ⟨fun a xs e => by rw [upd_ne (ne_of e h (by rintro rfl; cases f))]; exact e, fun a o' u' e => by rw [upd_ne (ne_of e h (by rintro rfl; cases f))]; exact e⟩
theorem Ext.sqt {K : PySem.W.Frag} {H H' : Hp} (e : Ext H H') {a : Addr} {xs : List V} (h : SqT K H a xs) : SqT K H' a xs := by
  rcases h with (h | ⟨o, h⟩) | h
  · exact .inl (.inl (e.tup _ _ h))
  · exact .inl (.inr ⟨o, e.frz _ _ _ h⟩)
  · exact .inr h

section
variable {G : GI} {ρ ρ' : List Addr} {H H' : Hp}
theorem pre_get {ρ ρ' : List Addr} (h : ρ <+: ρ') {i : Nat} {a : Addr} (e : ρ[i]? = some a) : ρ'[i]? = some a := by
  obtain ⟨t, rfl⟩ := h
  rw [List.getElem?_append_left (List.getElem?_eq_some_iff.mp e).1]
  exact e
mutual
theorem VRel.mono (p : ρ <+: ρ') (e : Ext H H') : ∀ {x : MV} {v : V}, VRel G ρ H x v → VRel G ρ' H' x v
  | .non, _, h => h
  | .bl _, _, h => h
  | .int _, _, h => h
  | .str _, _, h => h
  | .tup xs, _, h => by
    obtain ⟨q, vs, e1, e2, e3⟩ := h
    exact ⟨q, vs, e1, e.sqt e2, VRels.mono p e e3⟩
  | .ref i, _, h => by
    obtain ⟨a, e1, e2⟩ := h
    exact ⟨a, pre_get p e1, e2⟩
  | .fn g, _, h => h
theorem VRels.mono (p : ρ <+: ρ') (e : Ext H H') : ∀ {xs : List MV} {vs : List V}, VRels G ρ H xs vs → VRels G ρ' H' xs vs
  | [], _, h => h
  | x :: xs, _, h => by
    obtain ⟨v, r, e1, e2, e3⟩ := h
    exact ⟨v, r, e1, VRel.mono p e e2, VRels.mono p e e3⟩
end
end
end FE
/-! FEb: the flat evaluator. -/
namespace FE
open PySem L2

/-! ### syntax -/
inductive NT where
  | nm (i : Nat) | tup (l : NT) | nil | cons (h t : NT)
inductive BOp where | add | sub | mul | fdiv | mod | pow
inductive COp where | eq | ne | lt | le | gt | ge | isn | notn | inn | nin
inductive Blt where | len | abs | max | min | all | any | int | str | repr | list | tuple | dict | sorted | sum | divmod | set
inductive Cl where | own (g : Nat) | str | int | bool | list | tuple | dict
inductive ME where
  | slot (i : Nat) | glob (g : Nat) | cst (v : MV)
  | bin (op : BOp) (a b : ME) | neg (a : ME)
  | cmp (op : COp) (a b : ME) | chain (o1 o2 : COp) (a b c : ME)
  | and (a b : ME) | or (a b : ME) | not (a : ME) | ife (c a b : ME)
  | tup (es : ME) | lst (es : ME) | dsp (kvs : ME)
  | anil | acons (e es : ME) | kcons (k : Nat) (e es : ME)
  | ix (a i : ME) | sl (a lo hi : ME) | rev (a : ME)
  | attr (o : ME) (f : Nat)
  | call (g : Nat) (as ks : ME) | callv (f as : ME) | blt (b : Blt) (as ks : ME) | isi (e : ME) (c : Cl) | pcons (k v r : ME)
  | meth (m : Nat) (o as ks : ME)
  | comp (own : List Nat) (t : NT) (it cnd elt : ME)
  | iseq (e : ME) | irng1 (a : ME) | irng2 (a b : ME) | ienum (e : ME) | izip (es : ME)
/-- targets -/
inductive Tg where
  | nm (i : Nat) | sub (o i : ME) | attr (o : ME) (f : Nat) | tup (l : Tg) | nil | cons (h t : Tg)
inductive MS where
  | skip | seq (a b : MS) | expr (e : ME) | asg (t : Tg) (e : ME) | asg2 (t u : Tg) (e : ME) | par (i j : Nat) (a b : ME)
  | aug (i : Nat) (e : ME) | augs (o i e : ME) | augf (o : ME) (f : Nat) (e : ME) | par3 (i j l : Nat) (a b c : ME) | bad
  | ret (e : ME) | retn | ife (c : ME) (a b : MS) | forr (t : NT) (it : ME) (b : MS) | whil (c : ME) (b : MS)

/-! ### the program -/
structure MDef where
  pos : List Nat
  kwo : List (Nat × MV)
  size : Nat
  body : MS
structure MCls where
  init : Nat
  flds : List Nat
  meths : List (Nat × Nat)
structure Prog where
  con : Nat → Option MV
  fn : Nat → Option MDef
  cls : Nat → Option MCls
abbrev Calls := Nat → List MV → List (Nat × MV) → Store → Out MV
abbrev Slots := List (Option MV)

/-! ### data -/
def lim : Nat := 1000000
def mapO {α β : Type} (f : α → Option β) : List α → Option (List β)
  | [] => some []
  | x :: xs => match f x with
    | none => none
    | some y => match mapO f xs with
      | none => none
      | some ys => some (y :: ys)
/-- a value as data (no dicts) -/
def dat : Nat → Store → MV → Option PyData
  | 0, _, _ => none
  | n + 1, S, v => match v with
    | .non => some .none
    | .bl b => some (.bool b)
    | .int i => some (.int i)
    | .str s => some (.str s)
    | .tup xs => (mapO (dat n S) xs).map .tuple
    | .ref i => match S[i]? with
      | some (.lst xs) => (mapO (dat n S) xs).map .list
      | some (.lk (.lst xs)) => (mapO (dat n S) xs).map .list
      | _ => none
    | .fn _ => none
def datF : Nat := 40
def keyOf : MV → Option Key
  | .int i => some (.inl i)
  | .str s => some (.inr s)
  | _ => none
def tkeyOf : MV → Option (List Key)
  | .tup xs => mapO keyOf xs
  | _ => none
def ofKey : Key → MV
  | .inl i => .int i
  | .inr s => .str s
def truth (v : MV) (S : Store) : Option Bool := match v with
  | .non => some false
  | .bl b => some b
  | .int i => some (i != 0)
  | .str s => if s.length ≤ lim then some ((s.length : Int) != 0) else none
  | .tup xs => some (!xs.isEmpty)
  | .ref i => match S[i]? with
    | some (.lst xs) => some (!xs.isEmpty)
    | some (.lk (.lst xs)) => some (!xs.isEmpty)
    | some (.dk kvs) => some (!kvs.isEmpty)
    | _ => none
  | .fn _ => none
def isNon : MV → Bool
  | .non => true
  | _ => false
/-- a list to be read -/
def rdL (S : Store) (i : Nat) : Option (List MV) := match S[i]? with
  | some (.lst xs) => some xs
  | some (.lk (.lst xs)) => some xs
  | _ => none
def new (S : Store) (o : MO) : Out MV := .ok (.ref S.length) (S ++ [o])
def opt {α : Type} (o : Option α) (f : α → Out MV) : Out MV := match o with
  | some x => f x
  | none => .stuck
def binV (op : BOp) (x y : MV) (S : Store) : Out MV := match op, x, y with
  | .add, .int i, .int j => .ok (.int (i + j)) S
  | .sub, .int i, .int j => .ok (.int (i - j)) S
  | .mul, .int i, .int j => if (-18446744073709551616 < i ∧ i < 18446744073709551616) ∨ (-18446744073709551616 < j ∧ j < 18446744073709551616) then .ok (.int (i * j)) S else .stuck
  | .fdiv, .int i, .int j => if 0 < j ∧ j < 10 ^ 100 then .ok (.int (i / j)) S else .stuck
  | .mod, .int i, .int j => if 0 < j then .ok (.int (i % j)) S else .stuck
  | .pow, .int i, .int j => if 0 ≤ j ∧ j ≤ 1000 ∧ i.natAbs < 18446744073709551616 then .ok (.int (i ^ j.toNat)) S else .stuck
  | .add, .str a, .str b => if a.length + b.length ≤ lim then .ok (.str (a ++ b)) S else .stuck
  | .mul, .str a, .int j => if j ≤ 0 then (if -1000 < j then .ok (.str ⟨#[]⟩) S else .stuck) else if j = 1 then .ok (.str a) S else .stuck
  | .add, .ref i, .ref j => match S[i]?, S[j]? with
    | some (.lst xs), some (.lst ys) => if xs.length + ys.length ≤ lim then new S (.lst (xs ++ ys)) else .stuck
    | _, _ => .stuck
  | _, _, _ => .stuck
def datE (S : Store) (x y : MV) : Option Bool := match dat datF S x, dat datF S y with
  | some d, some e => if SeqAt.shaped d && SeqAt.shaped e then some (PyData.eqv d e) else none
  | _, _ => none
def sign1 (x : Str) : Option Nat := match x.cps.toList with
  | [c] => some c
  | _ => none
def inV (x y : MV) (S : Store) : Option Bool := match x, y with
  | .str a, .str b => match sign1 a with
    | some c => some (decide (c ∈ b.cps.toList))
    | none => none
  | _, _ => none
def cmpV (op : COp) (x y : MV) (S : Store) : Option Bool := match op with
  | .eq => datE S x y
  | .ne => (datE S x y).map (!·)
  | .isn => if isNon y then some (isNon x) else none
  | .notn => if isNon y then some (!isNon x) else none
  | .lt => match x, y with
    | .int i, .int j => some (decide (i < j))
    | _, _ => none
  | .le => match x, y with
    | .int i, .int j => some (decide (i ≤ j))
    | _, _ => none
  | .gt => match x, y with
    | .int i, .int j => some (decide (j < i))
    | _, _ => none
  | .ge => match x, y with
    | .int i, .int j => some (decide (j ≤ i))
    | _, _ => none
  | .inn => inV x y S
  | .nin => (inV x y S).map (!·)
def blO (o : Option Bool) (S : Store) : Out MV := match o with
  | some b => .ok (.bl b) S
  | none => .stuck
def oneO (o : Option MV) (S : Store) : Out MV := match o with
  | some v => .ok v S
  | none => .stuck
def ixV (a i : MV) (S : Store) : Option MV := match a, i with
  | .tup xs, .int k => atI xs k
  | .ref r, .int k => match rdL S r with
    | some xs => atI xs k
    | none => none
  | .str s, .int k => if s.length ≤ lim then (atI s.cps.toList k).map fun c => .str ⟨#[c]⟩ else none
  | _, _ => none
def strsOf : List MV → Option (List Str) := mapO fun v => match v with
  | .str s => some s
  | _ => none
def blsOf : List MV → Option (List Bool) := mapO fun v => match v with
  | .bl s => some s
  | _ => none
def lenV (v : MV) (S : Store) : Option Nat := match v with
  | .str s => if s.length ≤ lim then some s.length else none
  | .tup xs => some xs.length
  | .ref i => match rdL S i with
    | some xs => some xs.length
    | none => none
  | _ => none
def bltV (b : Blt) (as : List MV) (S : Store) : Out MV := match b, as with
  | .len, [v] => opt (lenV v S) fun n => .ok (.int n) S
  | .abs, [.int i] => .ok (.int (if i < 0 then -i else i)) S
  | .max, [.int i, .int j] => .ok (.int (if j > i then j else i)) S
  | .min, [.int i, .int j] => .ok (.int (if j < i then j else i)) S
  | .all, [.ref i] => opt (rdL S i) fun xs => opt (blsOf xs) fun bs => .ok (.bl (bs.all id)) S
  | .any, [.ref i] => opt (rdL S i) fun xs => opt (blsOf xs) fun bs => .ok (.bl (bs.any id)) S
  | .int, [.bl b] => .ok (.int (if b then 1 else 0)) S
  | .int, [.int i] => .ok (.int i) S
  | .repr, [v] => opt (dat datF S v) fun d => if d.showable = true ∧ d.shown.length ≤ lim then .ok (.str d.shown) S else .stuck
  | .str, [.int i] => if i.natAbs.log2 < 1920 then .ok (.str (toString i)) S else .stuck
  | .str, [.str s] => .ok (.str s) S
  | _, _ => .stuck
/-- types -/
inductive TyC where | own (g : Nat) | non | str | int | bool | list | tuple | dict
def tyC (v : MV) (S : Store) : Option TyC := match v with
  | .non => some .non
  | .bl _ => some .bool
  | .int _ => some .int
  | .str _ => some .str
  | .tup _ => some .tuple
  | .ref i => match S[i]? with
    | some (.lst _) => some .list
    | some (.lk (.lst _)) => some .list
    | some (.dk _) => some .dict
    | some (.dt _) => some .dict
    | some (.ins c _) => some (.own c)
    | _ => none
  | .fn _ => none
def isB : TyC → Cl → Bool
  | .own a, .own b => Nat.beq a b
  | .str, .str => true
  | .int, .int => true
  | .bool, .bool => true
  | .bool, .int => true
  | .list, .list => true
  | .tuple, .tuple => true
  | .dict, .dict => true
  | _, _ => false
def knT (Γ : Prog) : TyC → Bool
  | .own g => (Γ.cls g).isSome
  | _ => true
def knC (Γ : Prog) : Cl → Bool
  | .own g => (Γ.cls g).isSome
  | _ => true
def isV (Γ : Prog) (c : Cl) (x : MV) (S : Store) : Option Bool := match tyC x S with
  | some t => if knT Γ t && knC Γ c then some (isB t c) else none
  | none => none
/-- dicts -/
def dput {α : Type} (kvs : List (Key × α)) (k : Key) (v : α) : List (Key × α) :=
  if (kvs.any fun kv => decide (kv.1 = k)) = true then kvs.map fun kv => if kv.1 = k then (kv.1, v) else kv else kvs ++ [(k, v)]
def dputs {α : Type} (kvs : List (Key × α)) : List (Key × α) → List (Key × α)
  | [] => kvs
  | p :: ps => dputs (dput kvs p.1 p.2) ps
def pairKey (p : MV × MV) : Option (Key × MV) := match keyOf p.1 with
  | some k => some (k, p.2)
  | none => none
/-- builtin methods -/
inductive BM where | join | append | extend | pop | popAt | clear
/-- methods' names, by number -/
def mJoin : Nat := 1
def mAppend : Nat := 2
def mExtend : Nat := 3
def mPop : Nat := 4
def mClear : Nat := 5
inductive Kd where | str | tup | lst | dk | dt
def kdOf (x : MV) (S : Store) : Option Kd := match x with
  | .str _ => some .str
  | .tup _ => some .tup
  | .ref i => match S[i]? with
    | some (.lst _) => some .lst
    | some (.dk _) => some .dk
    | some (.dt _) => some .dt
    | _ => none
  | _ => none
def bmOf : Kd → Nat → Nat → Option BM
  | .str, 1, 1 => some .join
  | .lst, 2, 1 => some .append
  | .lst, 3, 1 => some .extend
  | .lst, 4, 0 => some .pop
  | .lst, 4, 1 => some .popAt
  | .lst, 5, 0 => some .clear
  | _, _, _ => none
def lstAt (S : Store) (i : Nat) : Option (List MV) := match S[i]? with
  | some (.lst xs) => some xs
  | _ => none
def bmV (m : BM) (o : MV) (as : List MV) (S : Store) : Out MV := match m, o, as with
  | .join, .str sep, [.ref i] => opt (rdL S i) fun xs => opt (strsOf xs) fun ys => if (ys.map (·.length)).sum + ys.length * sep.length ≤ lim then .ok (.str (Txt.join sep ys)) S else .stuck
  | .append, .ref i, [v] => opt (lstAt S i) fun xs => if xs.length < lim then .ok .non (S.set i (.lst (xs ++ [v]))) else .stuck
  | .extend, .ref i, [.ref j] => opt (lstAt S i) fun xs => opt (lstAt S j) fun ys => if xs.length + ys.length ≤ lim then .ok .non (S.set i (.lst (xs ++ ys))) else .stuck
  | .pop, .ref i, [] => opt (lstAt S i) fun xs => opt (xs[xs.length - 1]?) fun v => .ok v (S.set i (.lst xs.dropLast))
  | .popAt, .ref i, [.int k] => opt (lstAt S i) fun xs => opt (ixN xs.length k) fun j => opt (xs[j]?) fun v => if -1000000000 < k ∧ k < 1000000000 then .ok v (S.set i (.lst (xs.eraseIdx j))) else .stuck
  | .clear, .ref i, [] => opt (lstAt S i) fun _ => .ok .non (S.set i (.lst []))
  | _, _, _ => .stuck

/-! ### what loops walk -/
inductive IT where
  | seq (xs : List MV)
  | lst (i n : Nat)
  | enum (i n : Nat)
def IT.count : IT → Nat
  | .seq xs => xs.length
  | .lst _ n => n
  | .enum _ n => n
def IT.okAt (S : Store) : IT → Bool
  | .seq _ => true
  | .lst i n => match rdL S i with
    | some xs => decide (xs.length = n)
    | none => false
  | .enum i n => match rdL S i with
    | some xs => decide (xs.length = n)
    | none => false
def IT.item (S : Store) (k : Nat) : IT → Option MV
  | .seq xs => xs[k]?
  | .lst i n => match rdL S i with
    | some xs => if xs.length = n then xs[k]? else none
    | none => none
  | .enum i n => match rdL S i with
    | some xs => if xs.length = n then (xs[k]?).map fun x => .tup [.int k, x] else none
    | none => none
mutual
def setN : NT → MV → Slots → Option Slots
  | .nm i, v, σ => some (σ.set i (some v))
  | .tup l, v, σ => match v with
    | .tup xs => setNs l xs σ
    | _ => none
  | .nil, _, _ => none
  | .cons _ _, _, _ => none
def setNs : NT → List MV → Slots → Option Slots
  | .nil, [], σ => some σ
  | .cons h t, x :: xs, σ => match setN h x σ with
    | some σ1 => setNs t xs σ1
    | none => none
  | _, _, _ => none
end
def wipeM (σ : Slots) : List Nat → Slots
  | [] => σ
  | v :: vs => (wipeM σ vs).set v none
/-- a comprehension's turns: c the test, e the element -/
def compGo (t : NT) (c e : Slots → Store → Out MV) (I : IT) (σ : Slots) : Nat → Nat → List MV → Store → Out (List MV)
  | 0, _, acc, S => if I.okAt S then .ok acc S else .stuck
  | r + 1, k, acc, S => match I.item S k with
    | none => .stuck
    | some x => match setN t x σ with
      | none => .stuck
      | some σ1 => match c σ1 S with
        | .ok b S1 => match truth b S1 with
          | some true => match e σ1 S1 with
            | .ok y S2 => if acc.length < lim then compGo t c e I σ r (k + 1) (acc ++ [y]) S2 else .stuck
            | _ => .stuck
          | some false => compGo t c e I σ r (k + 1) acc S1
          | none => .stuck
        | _ => .stuck
def itOf (v : MV) (S : Store) : Option IT := match v with
  | .tup xs => some (.seq xs)
  | .str s => some (.seq (s.cps.toList.map fun c => .str ⟨#[c]⟩))
  | .ref i => match rdL S i with
    | some xs => some (.lst i xs.length)
    | none => none
  | _ => none

def isNilA : ME → Bool
  | .anil => true
  | _ => false
def argN : ME → Nat
  | .acons _ es => argN es + 1
  | _ => 0
/-- a method of an own class -/
def ownOf (Γ : Prog) (x : MV) (m : Nat) (S : Store) : Option Nat := match x with
  | .ref i => match S[i]? with
    | some (.ins c fs) => match Γ.cls c with
      | some cd => if (fs.lookup m).isNone then cd.meths.lookup m else none
      | none => none
    | _ => none
  | _ => none
def attrV (Γ : Prog) (x : MV) (f : Nat) (S : Store) : Option MV := match x with
  | .ref i => match S[i]? with
    | some (.ins c fs) => match Γ.cls c with
      | some cd => if cd.flds.contains f then fs.lookup f else none
      | none => none
    | _ => none
  | _ => none
def isInsM (x : MV) (S : Store) : Bool := match x with
  | .ref i => match S[i]? with
    | some (.ins _ _) => true
    | _ => false
  | _ => false
section
variable (Γ : Prog) (C : Calls)
mutual
def evE : ME → Slots → Store → Out MV
  | .slot i, σ, S => match σ[i]? with
    | some (some v) => .ok v S
    | _ => .stuck
  | .glob g, _, S => oneO (Γ.con g) S
  | .cst v, _, S => .ok v S
  | .bin op a b, σ, S => (evE a σ S).bind fun x S1 => (evE b σ S1).bind fun y S2 => binV op x y S2
  | .neg a, σ, S => (evE a σ S).bind fun x S1 => match x with
    | .int i => .ok (.int (-i)) S1
    | _ => .stuck
  | .cmp op a b, σ, S => (evE a σ S).bind fun x S1 => (evE b σ S1).bind fun y S2 => blO (cmpV op x y S2) S2
  | .chain o1 o2 a b c, σ, S => (evE a σ S).bind fun x S1 => (evE b σ S1).bind fun y S2 => match cmpV o1 x y S2 with
    | some true => (evE c σ S2).bind fun z S3 => blO (cmpV o2 y z S3) S3
    | some false => .ok (.bl false) S2
    | none => .stuck
  | .and a b, σ, S => (evE a σ S).bind fun x S1 => match truth x S1 with
    | some true => evE b σ S1
    | some false => .ok x S1
    | none => .stuck
  | .or a b, σ, S => (evE a σ S).bind fun x S1 => match truth x S1 with
    | some true => .ok x S1
    | some false => evE b σ S1
    | none => .stuck
  | .not a, σ, S => (evE a σ S).bind fun x S1 => blO ((truth x S1).map (!·)) S1
  | .ife c a b, σ, S => (evE c σ S).bind fun x S1 => match truth x S1 with
    | some true => evE a σ S1
    | some false => evE b σ S1
    | none => .stuck
  | .tup es, σ, S => (evA es σ S).bind fun xs S1 => .ok (.tup xs) S1
  | .lst es, σ, S => (evA es σ S).bind fun xs S1 => new S1 (.lst xs)
  | .dsp kvs, σ, S => (evP kvs σ S).bind fun ps S1 => opt (mapO pairKey ps) fun kvs => new S1 (.dk (dputs [] kvs))
  | .ix a i, σ, S => (evE a σ S).bind fun x S1 => (evE i σ S1).bind fun y S2 => oneO (ixV x y S2) S2
  | .blt b as .anil, σ, S => (evA as σ S).bind fun xs S1 => bltV b xs S1
  | .isi e c, σ, S => (evE e σ S).bind fun x S1 => blO (isV Γ c x S1) S1
  | .attr o f, σ, S => (evE o σ S).bind fun x S1 => oneO (attrV Γ x f S1) S1
  | .call g as ks, σ, S => (evA as σ S).bind fun xs S1 => (evK ks σ S1).bind fun ys S2 => C g xs ys S2
  | .meth m o as ks, σ, S => (evE o σ S).bind fun x S1 => match ownOf Γ x m S1 with
    | some g => (evA as σ S1).bind fun xs S2 => (evK ks σ S2).bind fun ys S3 => C g (x :: xs) ys S3
    | none => match kdOf x S1 with
      | some kd => match bmOf kd m (argN as) with
        | some b => if isNilA ks then (evA as σ S1).bind fun xs S2 => bmV b x xs S2 else .stuck
        | none => .stuck
      | none => .stuck
  | .comp own t it cnd elt, σ, S => (evI it σ S).bind fun I S1 => (compGo t (evE cnd) (evE elt) I (wipeM σ own) I.count 0 [] S1).bind fun xs S2 => new S2 (.lst xs)
  | _, _, _ => .stuck
def evA : ME → Slots → Store → Out (List MV)
  | .anil, _, S => .ok [] S
  | .acons e es, σ, S => (evE e σ S).bind fun x S1 => (evA es σ S1).bind fun xs S2 => .ok (x :: xs) S2
  | _, _, _ => .stuck
def evK : ME → Slots → Store → Out (List (Nat × MV))
  | .anil, _, S => .ok [] S
  | .kcons k e es, σ, S => (evE e σ S).bind fun x S1 => (evK es σ S1).bind fun xs S2 => .ok ((k, x) :: xs) S2
  | _, _, _ => .stuck
def evP : ME → Slots → Store → Out (List (MV × MV))
  | .anil, _, S => .ok [] S
  | .pcons k v r, σ, S => (evE k σ S).bind fun x S1 => (evE v σ S1).bind fun y S2 => (evP r σ S2).bind fun ps S3 => .ok ((x, y) :: ps) S3
  | _, _, _ => .stuck
def evI : ME → Slots → Store → Out IT
  | .iseq e, σ, S => (evE e σ S).bind fun v S1 => match itOf v S1 with
    | some I => .ok I S1
    | none => .stuck
  | .irng1 a, σ, S => (evE a σ S).bind fun v S1 => match v with
    | .int j => if -4611686018427387904 ≤ j ∧ j < 4611686018427387904 then .ok (.seq ((List.range j.toNat).map fun (k : Nat) => MV.int (k : Int))) S1 else .stuck
    | _ => .stuck
  | .irng2 a b, σ, S => (evE a σ S).bind fun v S1 => (evE b σ S1).bind fun w S2 => match v, w with
    | .int i, .int j => if (-4611686018427387904 ≤ i ∧ i < 4611686018427387904) ∧ -4611686018427387904 ≤ j ∧ j < 4611686018427387904 then .ok (.seq ((List.range (j - i).toNat).map fun (k : Nat) => MV.int (i + (k : Int)))) S2 else .stuck
    | _, _ => .stuck
  | .ienum e, σ, S => (evE e σ S).bind fun v S1 => match v with
    | .ref i => match rdL S1 i with
      | some xs => .ok (.enum i xs.length) S1
      | none => .stuck
    | _ => .stuck
  | _, _, _ => .stuck
end
/-! ### statements -/
inductive SR where
  | nx (σ : Slots) (S : Store) | rt (v : MV) (σ : Slots) (S : Store) | exc (e : Exn) (σ : Slots) (S : Store) | stuck
/-- a value, then a statement -/
def thenS {α : Type} (o : Out α) (σ : Slots) (f : α → Store → SR) : SR := match o with
  | .ok v S => f v S
  | .exc e S => .exc e σ S
  | .stuck => .stuck
@[simp] theorem thenS_ok {α : Type} (v : α) (S : Store) (σ : Slots) (f : α → Store → SR) : thenS (.ok v S) σ f = f v S := rfl
def SR.andThen : SR → (Slots → Store → SR) → SR
  | .nx σ S, f => f σ S
  | r, _ => r
@[simp] theorem SR.andThen_nx (σ : Slots) (S : Store) (f : Slots → Store → SR) : (SR.nx σ S).andThen f = f σ S := rfl
@[simp] theorem SR.andThen_rt (v : MV) (σ : Slots) (S : Store) (f : Slots → Store → SR) : (SR.rt v σ S).andThen f = .rt v σ S := rfl
@[simp] theorem SR.andThen_exc (e : Exn) (σ : Slots) (S : Store) (f : Slots → Store → SR) : (SR.exc e σ S).andThen f = .exc e σ S := rfl
@[simp] theorem SR.andThen_stuck (f : Slots → Store → SR) : SR.stuck.andThen f = .stuck := rfl
def putM (f : Nat) (v : MV) : List (Nat × MV) → List (Nat × MV)
  | [] => [(f, v)]
  | (g, x) :: r => if g = f then (g, v) :: r else (g, x) :: putM f v r
def setItemV (o i v : MV) (S : Store) : Option Store := match o, i with
  | .ref r, .int k => match S[r]? with
    | some (.lst xs) => (ixN xs.length k).map fun j => S.set r (.lst (xs.set j v))
    | _ => none
  | _, _ => none
def setAttrV (Γ : Prog) (o : MV) (f : Nat) (v : MV) (S : Store) : Option Store := match o with
  | .ref r => match S[r]? with
    | some (.ins c fs) => match Γ.cls c with
      | some cd => if cd.flds.contains f ∧ fs.length < 900 then some (S.set r (.ins c (putM f v fs))) else none
      | none => none
    | _ => none
  | _ => none
def nxO (σ : Slots) (o : Option Store) : SR := match o with
  | some S => .nx σ S
  | none => .stuck
def tgLen : Tg → Nat
  | .cons _ t => tgLen t + 1
  | _ => 0
/-- an augmented sum -/
def incO (x y : MV) : Option MV := match x, y with
  | .int a, .int b => some (.int (a + b))
  | _, _ => none
theorem inc_of {x y z : MV} (h : incO x y = some z) : ∃ i j, x = .int i ∧ y = .int j ∧ z = .int (i + j) := by
  unfold incO at h
  split at h
  · cases h; exact ⟨_, _, rfl, rfl, rfl⟩
  · cases h
def insCl (x : MV) (S : Store) : Option Nat := match x with
  | .ref i => match S[i]? with
    | some (.ins c _) => some c
    | _ => none
  | _ => none
def someS {α : Type} (o : Option α) (f : α → SR) : SR := match o with
  | some x => f x
  | none => .stuck
mutual
def setT : Tg → MV → Slots → Store → SR
  | .nm i, v, σ, S => .nx (σ.set i (some v)) S
  | .sub o i, v, σ, S => thenS (evE Γ C o σ S) σ fun x S1 => thenS (evE Γ C i σ S1) σ fun y S2 => nxO σ (setItemV x y v S2)
  | .attr o f, v, σ, S => thenS (evE Γ C o σ S) σ fun x S1 => nxO σ (setAttrV Γ x f v S1)
  | .tup l, v, σ, S => match v with
    | .tup xs => if xs.length = tgLen l then setTs l xs σ S else .stuck
    | _ => .stuck
  | _, _, _, _ => .stuck
def setTs : Tg → List MV → Slots → Store → SR
  | .nil, [], σ, S => .nx σ S
  | .cons h t, x :: xs, σ, S => (setT h x σ S).andThen fun σ1 S1 => setTs t xs σ1 S1
  | _, _, _, _ => .stuck
end
def forGo (t : NT) (b : Slots → Store → SR) (I : IT) : Nat → Nat → Slots → Store → SR
  | 0, _, σ, S => if I.okAt S then .nx σ S else .stuck
  | r + 1, k, σ, S => match I.item S k with
    | none => .stuck
    | some x => match setN t x σ with
      | none => .stuck
      | some σ1 => (b σ1 S).andThen fun σ2 S2 => forGo t b I r (k + 1) σ2 S2
/-- a while's test and body, so many times at most -/
def whN (c : Slots → Store → Out MV) (b : Slots → Store → SR) : Nat → Slots → Store → SR
  | 0, _, _ => .stuck
  | n + 1, σ, S => thenS (c σ S) σ fun v S1 => match truth v S1 with
    | some true => (b σ S1).andThen fun σ2 S2 => whN c b n σ2 S2
    | some false => .nx σ S1
    | none => .stuck
open Classical in
noncomputable def whP (c : Slots → Store → Out MV) (b : Slots → Store → SR) (σ : Slots) (S : Store) : SR :=
  if h : ∃ n, whN c b n σ S ≠ .stuck then whN c b (choose h) σ S else .stuck
noncomputable def evS : MS → Slots → Store → SR
  | .skip, σ, S => .nx σ S
  | .seq a b, σ, S => (evS a σ S).andThen fun σ1 S1 => evS b σ1 S1
  | .expr e, σ, S => thenS (evE Γ C e σ S) σ fun _ S1 => .nx σ S1
  | .asg t e, σ, S => thenS (evE Γ C e σ S) σ fun v S1 => setT Γ C t v σ S1
  | .asg2 t u e, σ, S => thenS (evE Γ C e σ S) σ fun v S1 => (setT Γ C t v σ S1).andThen fun σ1 S2 => setT Γ C u v σ1 S2
  | .par i j a b, σ, S => thenS (evE Γ C a σ S) σ fun v S1 => thenS (evE Γ C b σ S1) σ fun w S2 => .nx ((σ.set i (some v)).set j (some w)) S2
  | .par3 i j l a b c, σ, S => thenS (evE Γ C a σ S) σ fun v S1 => thenS (evE Γ C b σ S1) σ fun w S2 => thenS (evE Γ C c σ S2) σ fun u S3 => .nx (((σ.set i (some v)).set j (some w)).set l (some u)) S3
  | .aug i e, σ, S => someS ((σ[i]?).bind id) fun x => thenS (evE Γ C e σ S) σ fun y S1 => someS (incO x y) fun z => .nx (σ.set i (some z)) S1
  | .augs o i e, σ, S => thenS (evE Γ C o σ S) σ fun x S1 => thenS (evE Γ C i σ S1) σ fun k S2 => someS (ixV x k S2) fun v => thenS (evE Γ C e σ S2) σ fun y S3 => someS (incO v y) fun z => nxO σ (setItemV x k z S3)
  | .augf o f e, σ, S => thenS (evE Γ C o σ S) σ fun x S1 => someS (attrV Γ x f S1) fun v => thenS (evE Γ C e σ S1) σ fun y S2 => if insCl x S1 = insCl x S2 then someS (incO v y) fun z => nxO σ (setAttrV Γ x f z S2) else .stuck
  | .bad, _, _ => .stuck
  | .ret e, σ, S => thenS (evE Γ C e σ S) σ fun v S1 => .rt v σ S1
  | .retn, σ, S => .rt .non σ S
  | .ife c a b, σ, S => thenS (evE Γ C c σ S) σ fun v S1 => match truth v S1 with
    | some true => evS a σ S1
    | some false => evS b σ S1
    | none => .stuck
  | .forr t it b, σ, S => thenS (evI Γ C it σ S) σ fun I S1 => forGo t (fun σ1 S2 => evS b σ1 S2) I I.count 0 σ S1
  | .whil c b, σ, S => whP (fun σ1 S1 => evE Γ C c σ1 S1) (fun σ1 S1 => evS b σ1 S1) σ S
end
/-! ### calls -/
/-- the parameters' values: positional ones first, then by names, then defaults -/
def bindG {α : Type} (pos : List Nat) (kwo : List (Nat × α)) (as : List α) (ks : List (Nat × α)) : Option (List α) :=
  if as.length ≤ pos.length ∧ (∀ k ∈ ks.map (·.1), k ∈ pos.drop as.length ∨ k ∈ kwo.map (·.1)) ∧ (ks.map (·.1)).Nodup then
    match mapO (fun p => ks.lookup p) (pos.drop as.length) with
    | some vs => some (as ++ vs ++ kwo.map fun q => (ks.lookup q.1).getD q.2)
    | none => none
  else none
def bindM (d : MDef) (as : List MV) (ks : List (Nat × MV)) : Option (List MV) := bindG d.pos d.kwo as ks
def startM (n : Nat) (vs : List MV) : Slots := vs.map some ++ List.replicate (n - vs.length) none
noncomputable def runD (Γ : Prog) (C : Calls) (d : MDef) (vs : List MV) (S : Store) : Out MV := match evS Γ C d.body (startM d.size vs) S with
  | .nx _ S1 => .ok .non S1
  | .rt v _ S1 => .ok v S1
  | .exc e _ S1 => .exc e S1
  | .stuck => .stuck
/-- calls, so deep -/
noncomputable def calls (Γ : Prog) : Nat → Calls
  | 0 => fun _ _ _ _ => .stuck
  | n + 1 => fun g as ks S => match Γ.fn g with
    | some d => match bindM d as ks with
      | some vs => runD Γ (calls Γ n) d vs S
      | none => .stuck
    | none => match Γ.cls g with
      | some c => (calls Γ n c.init (.ref S.length :: as) ks (S ++ [.ins g []])).bind fun v S1 => if isNon v then .ok (.ref S.length) S1 else .stuck
      | none => .stuck
end FE
/-! FEc: the relation of the store to the abstract heap; canonical readings. -/
namespace FE
open PySem L2

/-- the store lies in the abstract heap -/
structure Rel (G : GI) (ρ : List Addr) (S : Store) (H : Hp) : Prop where
  len : ρ.length = S.length
  nd : ρ.Nodup
  obj : ∀ (i : Nat) (a : Addr) (o : MO), ρ[i]? = some a → S[i]? = some o → ORel G ρ H a o
  tup : ∀ a xs, H a = some (.tup xs) → a ∉ ρ
/-- the heap grew, what the store doesn't know is kept -/
structure Le (ρ : List Addr) (H : Hp) (ρ' : List Addr) (H' : Hp) : Prop where
  pre : ρ <+: ρ'
  keep : ∀ a o, H a = some o → a ∉ ρ → H' a = some o
  frz : ∀ a o u, H a = some (.frz o u) → H' a = some (.frz o u)
  new : ∀ a ∈ ρ', a ∈ ρ ∨ H a = none
theorem Le.refl (ρ : List Addr) (H : Hp) : Le ρ H ρ H := ⟨List.prefix_refl _, fun _ _ h _ => h, fun _ _ _ h => h, fun _ h => .inl h⟩
theorem Le.trans {ρ ρ1 ρ2 : List Addr} {H H1 H2 : Hp} (a : Le ρ H ρ1 H1) (b : Le ρ1 H1 ρ2 H2) : Le ρ H ρ2 H2 where
  pre := a.pre.trans b.pre
  keep := fun x o h n => b.keep x o (a.keep x o h n) fun m => by
    rcases a.new x m with q | q
    · exact n q
    · rw [h] at q; cases q
  frz := fun x o u h => b.frz x o u (a.frz x o u h)
  new := fun x m => by
    rcases b.new x m with q | q
    · exact a.new x q
    · by_cases hx : x ∈ ρ
      · exact .inl hx
      · refine .inr ?_
        cases e : H x with
        | none => rfl
        | some o => rw [a.keep x o e hx] at q; cases q
theorem Le.ext {G : GI} {ρ ρ' : List Addr} {S : Store} {H H' : Hp} (R : Rel G ρ S H) (l : Le ρ H ρ' H') : Ext H H' := ⟨fun a xs h => l.keep a _ h (R.tup a xs h), l.frz⟩

section
variable {G : GI} {ρ ρ' : List Addr} {S S' : Store} {H H' : Hp}
theorem VRel.le (R : Rel G ρ S H) (l : Le ρ H ρ' H') {x : MV} {v : V} (h : VRel G ρ H x v) : VRel G ρ' H' x v := h.mono l.pre (l.ext R)
theorem VRels.le (R : Rel G ρ S H) (l : Le ρ H ρ' H') {x : List MV} {v : List V} (h : VRels G ρ H x v) : VRels G ρ' H' x v := h.mono l.pre (l.ext R)
theorem KRel.mono {κ : Type} (p : ρ <+: ρ') (e : Ext H H') : ∀ {xs : List (κ × MV)} {vs : List (κ × V)}, KRel G ρ H xs vs → KRel G ρ' H' xs vs
  | [], _, h => h
  | (k, x) :: xs, _, h => by
    obtain ⟨v, r, e1, e2, e3⟩ := h
    exact ⟨v, r, e1, e2.mono p e, KRel.mono p e e3⟩
theorem FRel.mono (p : ρ <+: ρ') (e : Ext H H') : ∀ {xs : List (Nat × MV)} {vs : List (Str × V)}, FRel G ρ H xs vs → FRel G ρ' H' xs vs
  | [], _, h => h
  | (k, x) :: xs, _, h => by
    obtain ⟨v, r, e1, e2, e3⟩ := h
    exact ⟨v, r, e1, e2.mono p e, FRel.mono p e e3⟩
theorem CRel.mono (p : ρ <+: ρ') (e : Ext H H') : ∀ {o : MO} {u : HO}, CRel G ρ H o u → CRel G ρ' H' o u
  | .lst xs, _, h => by
    obtain ⟨vs, e1, e2⟩ := h
    exact ⟨vs, e1, e2.mono p e⟩
  | .dk xs, _, h => by
    obtain ⟨vs, e1, e2⟩ := h
    exact ⟨vs, e1, e2.mono p e⟩
  | .dt xs, _, h => by
    obtain ⟨vs, e1, e2⟩ := h
    exact ⟨vs, e1, e2.mono p e⟩
  | .ins c fs, _, h => by
    obtain ⟨dx, gs, e1, e2⟩ := h
    exact ⟨dx, gs, e1, e2.mono p e⟩
  | .xd fs, _, h => by
    obtain ⟨gs, e1, e2⟩ := h
    exact ⟨gs, e1, e2.mono p e⟩
/-- an object that stands as it stood -/
theorem ORel.mono (p : ρ <+: ρ') (e : Ext H H') {a : Addr} (ha : H' a = H a) : ∀ {o : MO}, ORel G ρ H a o → ORel G ρ' H' a o
  | .lk o, h => by
    obtain ⟨ob, u, h1, h2⟩ := h
    exact ⟨ob, u, by rw [ha]; exact h1, h2.mono p e⟩
  | .lst xs, h => by
    obtain ⟨u, h1, h2⟩ := h
    exact ⟨u, by rw [ha]; exact h1, CRel.mono (o := .lst xs) p e h2⟩
  | .dk xs, h => by
    obtain ⟨u, h1, h2⟩ := h
    exact ⟨u, by rw [ha]; exact h1, CRel.mono (o := .dk xs) p e h2⟩
  | .dt xs, h => by
    obtain ⟨u, h1, h2⟩ := h
    exact ⟨u, by rw [ha]; exact h1, CRel.mono (o := .dt xs) p e h2⟩
  | .ins c xs, h => by
    obtain ⟨u, h1, h2⟩ := h
    exact ⟨u, by rw [ha]; exact h1, CRel.mono (o := .ins c xs) p e h2⟩
  | .xd xs, h => by
    obtain ⟨u, h1, h2⟩ := h
    exact ⟨u, by rw [ha]; exact h1, CRel.mono (o := .xd xs) p e h2⟩
/-- the plain objects: tracked and changeable -/
def isPlain : MO → Bool
  | .lk _ => false
  | _ => true
theorem ORel.plain {a : Addr} {o : MO} (p : isPlain o = true) : ORel G ρ H a o ↔ ∃ u, H a = some u ∧ CRel G ρ H o u := by
  cases o <;> first | exact Iff.rfl | cases p
theorem CRel.nofix {o : MO} {u : HO} (h : CRel G ρ H o u) : isFix u = false := by
  cases o with
  | lst xs => obtain ⟨_, rfl, _⟩ := h; rfl
  | dk xs => obtain ⟨_, rfl, _⟩ := h; rfl
  | dt xs => obtain ⟨_, rfl, _⟩ := h; rfl
  | ins c xs => obtain ⟨_, _, rfl, _⟩ := h; rfl
  | xd xs => obtain ⟨_, rfl, _⟩ := h; rfl
  | lk o => cases h
theorem ORel.there {a : Addr} {o : MO} (h : ORel G ρ H a o) : ∃ u, H a = some u := by
  cases o with
  | lk o => obtain ⟨ob, u, e, _⟩ := h; exact ⟨_, e⟩
  | _ => obtain ⟨u, e, _⟩ := h; exact ⟨u, e⟩
theorem Rel.at_ (R : Rel G ρ S H) {i : Nat} {o : MO} (h : S[i]? = some o) : ∃ a, ρ[i]? = some a ∧ ORel G ρ H a o := by
  have hi : i < ρ.length := by rw [R.len]; exact (List.getElem?_eq_some_iff.mp h).1
  exact ⟨ρ[i], List.getElem?_eq_getElem hi, R.obj i _ o (List.getElem?_eq_getElem hi) h⟩
theorem Rel.ref (R : Rel G ρ S H) {i : Nat} {o : MO} {v : V} (h : S[i]? = some o) (r : VRel G ρ H (.ref i) v) : ∃ a, v = .ref a ∧ ρ[i]? = some a ∧ ORel G ρ H a o := by
  obtain ⟨a, e1, rfl⟩ := r
  exact ⟨a, rfl, e1, R.obj i a o e1 h⟩
theorem Rel.notin (R : Rel G ρ S H) {p : Addr} (hp : H p = none) : p ∉ ρ := by
  intro m
  obtain ⟨i, hi, e⟩ := List.getElem_of_mem m
  have hs : i < S.length := by rw [← R.len]; exact hi
  have o := R.obj i p _ (by rw [List.getElem?_eq_getElem hi, e]) (List.getElem?_eq_getElem hs)
  obtain ⟨u, hu⟩ := o.there
  rw [hp] at hu
  cases hu
theorem Rel.get_ne (R : Rel G ρ S H) {i j : Nat} {a b : Addr} (ha : ρ[i]? = some a) (hb : ρ[j]? = some b) (h : i ≠ j) : a ≠ b := by
  rintro rfl
  obtain ⟨h1, e1⟩ := List.getElem?_eq_some_iff.mp ha
  obtain ⟨h2, e2⟩ := List.getElem?_eq_some_iff.mp hb
  exact h ((List.getElem_inj R.nd).mp (e1.trans e2.symm))
/-- a new object -/
theorem Rel.new (R : Rel G ρ S H) {p : Addr} {o : MO} {u : HO} (hp : H p = none) (c : CRel G ρ H o u) : Rel G (ρ ++ [p]) (S ++ [o]) (upd H p u) ∧ Le ρ H (ρ ++ [p]) (upd H p u) := by
  have np := R.notin hp
  have l : Le ρ H (ρ ++ [p]) (upd H p u) := {
    pre := List.prefix_append _ _
    keep := fun a o h _ => by rw [upd_ne (ne_of_none h hp)]; exact h
    frz := fun a o x h => by rw [upd_ne (ne_of_none h hp)]; exact h
    new := fun a m => by
      rcases List.mem_append.mp m with m | m
      · exact .inl m
      · rw [List.mem_singleton.mp m]; exact .inr hp }
  refine ⟨⟨by simp [R.len], ?_, fun i a x ha hx => ?_, fun a xs h m => ?_⟩, l⟩
  · rw [List.nodup_append]
    exact ⟨R.nd, by simp, fun a h b h2 => by rw [List.mem_singleton.mp h2]; rintro rfl; exact np h⟩
  · have e := l.ext R
    by_cases hi : i < ρ.length
    · rw [List.getElem?_append_left hi] at ha
      rw [List.getElem?_append_left (by rw [← R.len]; exact hi)] at hx
      have hne : a ≠ p := fun q => np (by rw [← q]; exact List.mem_of_getElem? ha)
      exact (R.obj i a x ha hx).mono l.pre e (upd_ne hne)
    · have hi' : i = ρ.length := by
        have := (List.getElem?_eq_some_iff.mp ha).1
        simp at this
        omega
      subst hi'
      rw [List.getElem?_append_right (Nat.le_refl _)] at ha
      rw [R.len, List.getElem?_append_right (Nat.le_refl _)] at hx
      simp at ha hx
      subst ha hx
      have pl : isPlain o = true := by cases o <;> first | rfl | cases c
      exact (ORel.plain pl).mpr ⟨u, upd_same, c.mono l.pre e⟩
  · by_cases q : a = p
    · subst q
      rw [upd_same] at h
      cases h
      have := c.nofix
      cases this
    · rw [upd_ne q] at h
      rcases List.mem_append.mp m with m | m
      · exact R.tup a xs h m
      · exact q (List.mem_singleton.mp m)
/-- an object changed -/
theorem Rel.set (R : Rel G ρ S H) {i : Nat} {a : Addr} {o o' : MO} {u : HO} (ha : ρ[i]? = some a) (ho : S[i]? = some o) (p : isPlain o = true) (c : CRel G ρ H o' u) : Rel G ρ (S.set i o') (upd H a u) ∧ Le ρ H ρ (upd H a u) := by
  obtain ⟨u0, hu0, c0⟩ := (ORel.plain p).mp (R.obj i a o ha ho)
  have nf := c0.nofix
  have l : Le ρ H ρ (upd H a u) := {
    pre := List.prefix_refl _
    keep := fun b o h n => by rw [upd_ne (fun q => n (by rw [q]; exact List.mem_of_getElem? ha))]; exact h
    frz := fun b o x h => by rw [upd_ne (ne_of h hu0 (by rintro rfl; cases nf))]; exact h
    new := fun b m => .inl m }
  have e := l.ext R
  refine ⟨⟨by simp [R.len], R.nd, fun j b x hb hx => ?_, fun b xs h m => ?_⟩, l⟩
  · by_cases q : i = j
    · subst q
      rw [ha] at hb
      cases hb
      have hi : i < S.length := (List.getElem?_eq_some_iff.mp ho).1
      rw [List.getElem?_set_self hi] at hx
      cases hx
      have pl : isPlain o' = true := by cases o' <;> first | rfl | cases c
      exact (ORel.plain pl).mpr ⟨u, upd_same, c.mono l.pre e⟩
    · rw [List.getElem?_set_ne q] at hx
      exact (R.obj j b x hb hx).mono l.pre e (upd_ne (R.get_ne hb ha fun z => q z.symm))
  · by_cases q : b = a
    · subst q
      rw [upd_same] at h
      cases h
      have := c.nofix
      cases this
    · rw [upd_ne q] at h
      exact R.tup b xs h m
/-- a new tuple: a value, not in the store -/
theorem Rel.tupn (R : Rel G ρ S H) {p : Addr} {vs : List V} (hp : H p = none) : Rel G ρ S (upd H p (.tup vs)) ∧ Le ρ H ρ (upd H p (.tup vs)) := by
  have np := R.notin hp
  have l : Le ρ H ρ (upd H p (.tup vs)) := {
    pre := List.prefix_refl _
    keep := fun a o h _ => by rw [upd_ne (ne_of_none h hp)]; exact h
    frz := fun a o x h => by rw [upd_ne (ne_of_none h hp)]; exact h
    new := fun b m => .inl m }
  refine ⟨⟨R.len, R.nd, fun j b x hb hx => (R.obj j b x hb hx).mono l.pre (l.ext R) (upd_ne fun q => np (by rw [← q]; exact List.mem_of_getElem? hb)), fun b xs h m => ?_⟩, l⟩
  by_cases q : b = p
  · subst q; exact np m
  · rw [upd_ne q] at h
    exact R.tup b xs h m
end
end FE
/-! FEd: canonical readings; expressions' parts. -/
namespace FE
open PySem L2

theorem _root_.L2.PE.imp {X : Cx} {e : Expr} {t t' : TE} (h : PE X e t) (i : ∀ σ H Q, t' σ H Q → t σ H Q) : PE X e t' := ⟨fun p s σ H Q I q => h.run p s σ H Q I (i σ H Q q)⟩
theorem _root_.L2.PT.imp {X : Cx} {e : Expr} {t t' : TT} (h : PT X e t) (i : ∀ σ H Q, t' σ H Q → t σ H Q) : PT X e t' := ⟨fun p s σ H Q I q => h.run p s σ H Q I (i σ H Q q)⟩
theorem _root_.L2.PW.imp {X : Cx} {e : Expr} {t t' : TT} (h : PW X e t) (i : ∀ σ H Q, t' σ H Q → t σ H Q) : PW X e t' := ⟨fun w p s σ H Q I q => h.run w p s σ H Q I (i σ H Q q)⟩
theorem _root_.L2.PA.imp {X : Cx} {e : List Expr} {t t' : TA} (h : PA X e t) (i : ∀ σ H Q, t' σ H Q → t σ H Q) : PA X e t' := ⟨fun po p s σ H Q I q => h.run po p s σ H Q I (i σ H Q q)⟩
theorem _root_.L2.PS.imp {X : Cx} {e : Stmt} {t t' : TS} (h : PS X e t) (i : ∀ D σ H, t' D σ H → t D σ H) : PS X e t' := ⟨fun p s σ H D I q => h.run p s σ H D I (i D σ H q)⟩
theorem _root_.L2.PSs.imp {X : Cx} {e : List Stmt} {t t' : TS} (h : PSs X e t) (i : ∀ D σ H, t' D σ H → t D σ H) : PSs X e t' := ⟨fun p s σ H D I q => h.run p s σ H D I (i D σ H q)⟩

/-! ### slots -/
structure SRel (G : GI) (ρ : List Addr) (H : Hp) (m : Slots) (σ : St) : Prop where
  len : m.length = σ.length
  get : ∀ (i : Nat) (v : MV), m[i]? = some (some v) → ∃ w, σ[i]? = some (some w) ∧ VRel G ρ H v w
section
variable {G : GI} {ρ ρ' : List Addr} {S S' : Store} {H H' : Hp} {m : Slots} {σ : St}
theorem SRel.le (R : Rel G ρ S H) (l : Le ρ H ρ' H') (h : SRel G ρ H m σ) : SRel G ρ' H' m σ := ⟨h.len, fun i v e => let ⟨w, e1, e2⟩ := h.get i v e; ⟨w, e1, e2.le R l⟩⟩
theorem SRel.set (h : SRel G ρ H m σ) {v : MV} {w : V} (r : VRel G ρ H v w) (i : Nat) : SRel G ρ H (m.set i (some v)) (σ.set i (some w)) := by
  refine ⟨by simp [h.len], fun j u e => ?_⟩
  by_cases q : i = j
  · subst q
    have hi : i < m.length := by
      have := (List.getElem?_eq_some_iff.mp e).1
      simpa using this
    rw [List.getElem?_set_self hi] at e
    cases e
    exact ⟨w, by rw [List.getElem?_set_self (by rw [← h.len]; exact hi)], r⟩
  · rw [List.getElem?_set_ne q] at e ⊢
    exact h.get j u e
theorem SRel.unset (h : SRel G ρ H m σ) (i : Nat) : SRel G ρ H (m.set i none) (σ.set i none) := by
  refine ⟨by simp [h.len], fun j u e => ?_⟩
  by_cases q : i = j
  · subst q
    have hi : i < m.length := by
      have := (List.getElem?_eq_some_iff.mp e).1
      simpa using this
    rw [List.getElem?_set_self hi] at e
    cases e
  · rw [List.getElem?_set_ne q] at e ⊢
    exact h.get j u e
theorem SRel.wipe (h : SRel G ρ H m σ) : ∀ vs : List Nat, SRel G ρ H (wipeM m vs) (L2.wipe σ vs)
  | [] => h
  | v :: vs => (SRel.wipe h vs).unset v
end

/-! ### an outcome against a wish -/
def K1 {α β : Type} (G : GI) (ρ : List Addr) (H : Hp) (o : Out α) (R : List Addr → Hp → α → β → Prop) (Q : β → Hp → Prop) (W : Exn → List Addr → Hp → Prop) : Prop := match o with
  | .ok v S' => ∀ ρ' H' w, Le ρ H ρ' H' → Rel G ρ' S' H' → R ρ' H' v w → Q w H'
  | .exc e S' => ∀ ρ' H', Le ρ H ρ' H' → Rel G ρ' S' H' → W e ρ' H'
  | .stuck => False
def exW (G : GI) (W : WX) (σ : St) (e : Exn) (ρ : List Addr) (H : Hp) : Prop := W (.ref (G.ad e.cls)) (e.d.bind fun i => ρ[i]?) σ H
section
variable {α β γ δ : Type} {G : GI} {ρ ρ' : List Addr} {S S' : Store} {H H' : Hp} {R : List Addr → Hp → α → β → Prop} {R2 : List Addr → Hp → γ → δ → Prop} {W : Exn → List Addr → Hp → Prop}
/-- later -/
theorem K1.le {o : Out α} {Q : β → Hp → Prop} (h : K1 G ρ H o R Q W) (l : Le ρ H ρ' H') : K1 G ρ' H' o R Q W := by
  cases o with
  | ok v S' => exact fun ρ2 H2 w l2 r2 v2 => h ρ2 H2 w (l.trans l2) r2 v2
  | exc e S' => exact fun ρ2 H2 l2 r2 => h ρ2 H2 (l.trans l2) r2
  | stuck => exact h
/-- first o, then f -/
theorem K1.bind {o : Out α} {f : α → Store → Out γ} {Q : δ → Hp → Prop} (h : K1 G ρ H (o.bind f) R2 Q W) :
    K1 G ρ H o R (fun w H1 => ∃ ρ1 S1 v, Le ρ H ρ1 H1 ∧ Rel G ρ1 S1 H1 ∧ R ρ1 H1 v w ∧ K1 G ρ1 H1 (f v S1) R2 Q W) W := by
  cases o with
  | ok v S1 => exact fun ρ1 H1 w l r hv => ⟨ρ1, S1, v, l, r, hv, h.le l⟩
  | exc e S1 => exact h
  | stuck => exact h
theorem K1.mono {o : Out α} {Q Q' : β → Hp → Prop} (h : K1 G ρ H o R Q W) (i : ∀ w H1, Q w H1 → Q' w H1) : K1 G ρ H o R Q' W := by
  cases o with
  | ok v S' => exact fun ρ2 H2 w l2 r2 v2 => i _ _ (h ρ2 H2 w l2 r2 v2)
  | exc e S' => exact h
  | stuck => exact h
/-- a value that is there -/
theorem K1.ok {v : α} {w : β} {Q : β → Hp → Prop} (h : K1 G ρ H (.ok v S') R Q W) (r : Rel G ρ' S' H') (l : Le ρ H ρ' H') (hv : R ρ' H' v w) : Q w H' := h ρ' H' w l r hv
end
abbrev RV (G : GI) : List Addr → Hp → MV → V → Prop := fun ρ H v w => VRel G ρ H v w
abbrev RVs (G : GI) : List Addr → Hp → List MV → List V → Prop := fun ρ H v w => VRels G ρ H v w
/-! ### canonical readings -/
def T (G : GI) (d : Slots → Store → Out MV) (W : WX) : TE := fun σ H Q => ∃ ρ S m, Rel G ρ S H ∧ SRel G ρ H m σ ∧ K1 G ρ H (d m S) (RV G) Q (exW G W σ)
def TAs (G : GI) (d : Slots → Store → Out (List MV)) (W : WX) : TA := fun σ H Q => ∃ ρ S m, Rel G ρ S H ∧ SRel G ρ H m σ ∧ K1 G ρ H (d m S) (RVs G) Q (exW G W σ)
def tst (d : Slots → Store → Out MV) (m : Slots) (S : Store) : Out Bool := (d m S).bind fun v S1 => match truth v S1 with
  | some b => .ok b S1
  | none => .stuck
def Tb (G : GI) (d : Slots → Store → Out MV) (W : WX) : TT := fun σ H Q => ∃ ρ S m, Rel G ρ S H ∧ SRel G ρ H m σ ∧ K1 G ρ H (tst d m S) (fun _ _ (b c : Bool) => b = c) Q (exW G W σ)

section
variable {G : GI} {W : WX} {da db dc : Slots → Store → Out MV} {σ : St} {H : Hp}
/-- a, then f of its value -/
theorem T.seq {d : Slots → Store → Out MV} {f : MV → Slots → Store → Out MV} {Q : VK} (h : T G d W σ H Q) (e : ∀ m S, d m S = (da m S).bind fun v S1 => f v m S1) :
    T G da W σ H fun x H1 => ∃ ρ S m v, Rel G ρ S H1 ∧ SRel G ρ H1 m σ ∧ VRel G ρ H1 v x ∧ K1 G ρ H1 (f v m S) (RV G) Q (exW G W σ) := by
  obtain ⟨ρ, S, m, R, s, k⟩ := h
  rw [e] at k
  refine ⟨ρ, S, m, R, s, (K1.bind (R := RV G) k).mono fun w H1 ⟨ρ1, S1, v, l, r, hv, q⟩ => ?_⟩
  exact ⟨ρ1, S1, m, v, r, s.le R l, hv, q⟩
/-- a, then b, then f of both -/
theorem T.seq2 {d : Slots → Store → Out MV} {f : MV → MV → Store → Out MV} {Q : VK} (h : T G d W σ H Q) (e : ∀ m S, d m S = (da m S).bind fun x S1 => (db m S1).bind fun y S2 => f x y S2) :
    T G da W σ H fun x H1 => T G db W σ H1 fun y H2 => ∃ ρ S v u, Rel G ρ S H2 ∧ VRel G ρ H2 v x ∧ VRel G ρ H2 u y ∧ K1 G ρ H2 (f v u S) (RV G) Q (exW G W σ) := by
  obtain ⟨ρ, S, m, R, s, k⟩ := h
  rw [e] at k
  refine ⟨ρ, S, m, R, s, (K1.bind (R := RV G) k).mono fun w H1 ⟨ρ1, S1, v, l, r, hv, q⟩ => ?_⟩
  refine ⟨ρ1, S1, m, r, s.le R l, (K1.bind (R := RV G) q).mono fun w2 H2 ⟨ρ2, S2, u, l2, r2, hu, q2⟩ => ?_⟩
  exact ⟨ρ2, S2, v, u, r2, hv.le r l2, hu, q2⟩
end
/-! ### the operators, by values -/
/-- a two-place operation of the evaluator, as a reading by values -/
def rOp (G : GI) (f : MV → MV → Store → Out MV) (W : WX) (σ : St) : R2 := fun x y H Q => ∃ ρ S v u, Rel G ρ S H ∧ VRel G ρ H v x ∧ VRel G ρ H u y ∧ K1 G ρ H (f v u S) (RV G) Q (exW G W σ)
/-- .. that raises nothing -/
def rOp0 (G : GI) (f : MV → MV → Store → Out MV) : R2 := fun x y H Q => ∃ ρ S v u, Rel G ρ S H ∧ VRel G ρ H v x ∧ VRel G ρ H u y ∧ K1 G ρ H (f v u S) (RV G) Q (fun _ _ _ => False)
/-- an operation that raises nothing -/
def NoX {α : Type} (o : Out α) : Prop := match o with
  | .exc _ _ => False
  | _ => True
theorem K1.nox {α β : Type} {G : GI} {ρ : List Addr} {H : Hp} {R : List Addr → Hp → α → β → Prop} {W W' : Exn → List Addr → Hp → Prop} {o : Out α} {Q : β → Hp → Prop} (h : K1 G ρ H o R Q W) (n : NoX o) : K1 G ρ H o R Q W' := by
  cases o with
  | ok v S => exact h
  | exc e S => exact n.elim
  | stuck => exact h
section
variable {X : Cx} {G : GI} {W : WX} {a b : Expr} {da db : Slots → Store → Out MV} {pos : Pos}
/-- a binary operation -/
theorem je_bin {op : Operator} {f : MV → MV → Store → Out MV} {d : Slots → Store → Out MV} (ho : OpR X (binaryOp op) (rOp0 G f)) (nx : ∀ v u S, NoX (f v u S)) (ha : PE X a (T G da W)) (hb : PE X b (T G db W))
    (e : ∀ m S, d m S = (da m S).bind fun x S1 => (db m S1).bind fun y S2 => f x y S2) : PE X (.BinOp a op b pos) (T G d W) :=
  (pe_op ho ha hb).imp fun σ H Q h => by
    obtain ⟨ρ, S, m, R, s, k⟩ := T.seq2 h e
    refine ⟨ρ, S, m, R, s, k.mono fun x H1 ⟨ρ1, S1, m1, R1, s1, k1⟩ => ⟨ρ1, S1, m1, R1, s1, k1.mono fun y H2 ⟨ρ2, S2, v, u, R2, hv, hu, k2⟩ => ⟨ρ2, S2, v, u, R2, hv, hu, k2.nox (nx _ _ _)⟩⟩⟩
theorem je_cmp {op : CmpOp} {f : MV → MV → Store → Out MV} {d : Slots → Store → Out MV} (ho : OpR X (compareOp op) (rOp0 G f)) (nx : ∀ v u S, NoX (f v u S)) (ha : PE X a (T G da W)) (hb : PE X b (T G db W)) (hm : behindInMarks op b = false)
    (e : ∀ m S, d m S = (da m S).bind fun x S1 => (db m S1).bind fun y S2 => f x y S2) : PE X (.Compare a [op] [b] pos) (T G d W) :=
  (pe_cmpR ho ha hb hm).imp fun σ H Q h => by
    obtain ⟨ρ, S, m, R, s, k⟩ := T.seq2 h e
    refine ⟨ρ, S, m, R, s, k.mono fun x H1 ⟨ρ1, S1, m1, R1, s1, k1⟩ => ⟨ρ1, S1, m1, R1, s1, k1.mono fun y H2 ⟨ρ2, S2, v, u, R2, hv, hu, k2⟩ => ⟨ρ2, S2, v, u, R2, hv, hu, k2.nox (nx _ _ _)⟩⟩⟩
end
end FE
/-! FEe: the evaluator's operations on values are the machine's. -/
namespace FE
open PySem L2

def opOf : BOp → Operator
  | .add => .Add | .sub => .Sub | .mul => .Mult | .fdiv => .FloorDiv | .mod => .Mod | .pow => .Pow
def cmpOf : COp → CmpOp
  | .eq => .Eq | .ne => .NotEq | .lt => .Lt | .le => .LtE | .gt => .Gt | .ge => .GtE | .isn => .Is | .notn => .IsNot | .inn => .In | .nin => .NotIn
theorem lim_le : lim ≤ sizeLine := by decide
theorem le_lim {n : Nat} (h : n ≤ lim) : n ≤ sizeLine := Nat.le_trans h lim_le
theorem lt_lim {n : Nat} (h : n < lim) : n < sizeLine := Nat.lt_of_lt_of_le h lim_le

section
variable {X : Cx} {G : GI} {ρ : List Addr} {S : Store} {H : Hp}
theorem rd_sql (hK : X.K = G.K) (R : Rel G ρ S H) {i : Nat} {xs : List MV} {v : V} (h : rdL S i = some xs) (r : VRel G ρ H (.ref i) v) : ∃ a vs, v = .ref a ∧ SqL X.K H a vs ∧ VRels G ρ H xs vs ∧ ρ[i]? = some a := by
  unfold rdL at h
  split at h
  · rename_i ys e
    cases h
    obtain ⟨a, rfl, e1, u, hu, vs, rfl, c⟩ := R.ref e r
    exact ⟨a, vs, rfl, .inl (.inl hu), c, e1⟩
  · rename_i ys e
    cases h
    obtain ⟨a, rfl, e1, ob, u, hu, vs, rfl, c⟩ := R.ref e r
    exact ⟨a, vs, rfl, .inl (.inr ⟨ob, hu⟩), c, e1⟩
  · cases h
theorem VRels.length {G : GI} {ρ : List Addr} {H : Hp} : ∀ {xs : List MV} {vs : List V}, VRels G ρ H xs vs → xs.length = vs.length
  | [], _, h => by cases h; rfl
  | x :: xs, _, h => by
    obtain ⟨v, r, rfl, _, t⟩ := h
    simp [VRels.length t]
theorem VRels.get {G : GI} {ρ : List Addr} {H : Hp} : ∀ {xs : List MV} {vs : List V} {i : Nat} {x : MV}, VRels G ρ H xs vs → xs[i]? = some x → ∃ v, vs[i]? = some v ∧ VRel G ρ H x v
  | [], _, i, x, h, e => by simp at e
  | y :: xs, _, 0, x, h, e => by
    obtain ⟨v, r, rfl, hv, _⟩ := h
    simp at e; subst e
    exact ⟨v, rfl, hv⟩
  | y :: xs, _, i + 1, x, h, e => by
    obtain ⟨v, r, rfl, _, t⟩ := h
    obtain ⟨w, e1, e2⟩ := VRels.get (i := i) t (by simpa using e)
    exact ⟨w, by simpa using e1, e2⟩
theorem VRels.append {G : GI} {ρ : List Addr} {H : Hp} : ∀ {xs ys : List MV} {vs ws : List V}, VRels G ρ H xs vs → VRels G ρ H ys ws → VRels G ρ H (xs ++ ys) (vs ++ ws)
  | [], _, _, _, h, k => by cases h; exact k
  | x :: xs, _, _, _, h, k => by
    obtain ⟨v, r, rfl, hv, t⟩ := h
    exact ⟨v, r ++ _, rfl, hv, VRels.append t k⟩
theorem VRels.set {G : GI} {ρ : List Addr} {H : Hp} {x : MV} {v : V} (hx : VRel G ρ H x v) : ∀ {xs : List MV} {vs : List V} (i : Nat), VRels G ρ H xs vs → VRels G ρ H (xs.set i x) (vs.set i v)
  | [], _, i, h => by cases h; simp [VRels]
  | y :: xs, _, 0, h => by
    obtain ⟨w, r, rfl, _, t⟩ := h
    exact ⟨v, r, rfl, hx, t⟩
  | y :: xs, _, i + 1, h => by
    obtain ⟨w, r, rfl, hw, t⟩ := h
    exact ⟨w, r.set i v, rfl, hw, VRels.set hx i t⟩
theorem VRels.one {G : GI} {ρ : List Addr} {H : Hp} {x : MV} {v : V} (h : VRel G ρ H x v) : VRels G ρ H [x] [v] := ⟨v, [], rfl, h, rfl⟩
theorem bls_of {G : GI} {ρ : List Addr} {H : Hp} : ∀ {xs : List MV} {vs : List V} {bs : List Bool}, VRels G ρ H xs vs → blsOf xs = some bs → vs = bs.map V.bl
  | [], _, bs, h, e => by cases h; simp [blsOf, mapO] at e; subst e; rfl
  | x :: xs, _, bs, h, e => by
    obtain ⟨v, r, rfl, hv, t⟩ := h
    simp only [blsOf, mapO] at e
    cases x <;> first | (cases e; done) | skip
    rename_i b
    simp only at e
    split at e
    · cases e
    · rename_i ys q
      cases e
      cases (show v = V.bl b from hv)
      rw [bls_of t q]
      rfl
theorem strs_of {G : GI} {ρ : List Addr} {H : Hp} : ∀ {xs : List MV} {vs : List V} {bs : List Str}, VRels G ρ H xs vs → strsOf xs = some bs → vs = bs.map V.str
  | [], _, bs, h, e => by cases h; simp [strsOf, mapO] at e; subst e; rfl
  | x :: xs, _, bs, h, e => by
    obtain ⟨v, r, rfl, hv, t⟩ := h
    simp only [strsOf, mapO] at e
    cases x <;> first | (cases e; done) | skip
    rename_i b
    simp only at e
    split at e
    · cases e
    · rename_i ys q
      cases e
      cases (show v = V.str b from hv)
      rw [strs_of t q]
      rfl
end

theorem abs_lt400 {j : Int} (h : 0 < j) (h2 : j < 10 ^ 100) : j.natAbs < 2 ^ 400 := by
  have h4 : ((Int.natAbs j : Nat) : Int) < ((2 ^ 400 : Nat) : Int) := by
    rw [Int.natAbs_of_nonneg (Int.le_of_lt h)]
    exact Int.lt_trans h2 (by decide +kernel)
  exact Int.ofNat_lt.mp h4
theorem nox_binV (op : BOp) (x y : MV) (S : Store) : NoX (binV op x y S) := by
  unfold binV
  repeat' split
  all_goals first | trivial | (unfold new; trivial)
theorem mul_str_ok {X : Cx} : OpR X (binaryOp .Mult) (fun x y H Q => ∃ a j, x = .str a ∧ y = .int j ∧ ((j ≤ 0 ∧ -1000 < j ∧ Q (.str ⟨#[]⟩) H) ∨ (j = 1 ∧ Q (.str a) H))) := by
  intro pins s σ H x y v u Q I rx ry h
  obtain ⟨a, j, rfl, rfl, h⟩ := h
  obtain ⟨t, rfl⟩ := rx
  obtain ⟨t', rfl⟩ := ry
  rcases h with ⟨h1, h2, q⟩ | ⟨rfl, q⟩
  · exact PySem.P.mul_str_none (by omega) (by omega) ⟨.str ⟨#[]⟩, H, I.tok _, ⟨_, rfl⟩, q⟩
  · exact PySem.P.mul_str (by decide) (fun _ h => by simp at h) (fun _ h => by simp at h) (by rw [if_neg (by decide), if_pos (by simp)]; exact ⟨.str a, H, I, ⟨_, rfl⟩, q⟩)
section
variable {X : Cx} {G : GI}
theorem op_bin (hK : X.K = G.K) (op : BOp) : OpR X (binaryOp (opOf op)) (rOp0 G (binV op)) := by
  intro pins s σ H x y v u Q I rx ry h
  obtain ⟨ρ, S, a, b, R, ha, hb, k⟩ := h
  unfold binV at k
  split at k
  · cases ha; cases hb
    exact op_add pins s σ H _ _ v u Q I rx ry ⟨_, _, rfl, rfl, k.ok R (Le.refl _ _) rfl⟩
  · cases ha; cases hb
    exact op_sub pins s σ H _ _ v u Q I rx ry ⟨_, _, rfl, rfl, k.ok R (Le.refl _ _) rfl⟩
  · cases ha; cases hb
    split at k
    · rename_i c
      exact op_mul pins s σ H _ _ v u Q I rx ry ⟨_, _, rfl, rfl, c, k.ok R (Le.refl _ _) rfl⟩
    · exact k.elim
  · cases ha; cases hb
    split at k
    · rename_i c
      refine op_fdivW pins s σ H _ _ v u Q I rx ry ⟨_, _, rfl, rfl, wide_div (b := 400) c.1 ?_ (by decide) (by decide), k.ok R (Le.refl _ _) rfl⟩
      exact abs_lt400 c.1 c.2
    · exact k.elim
  · cases ha; cases hb
    split at k
    · rename_i c
      exact op_mod pins s σ H _ _ v u Q I rx ry ⟨_, _, rfl, rfl, c, k.ok R (Le.refl _ _) rfl⟩
    · exact k.elim
  · cases ha; cases hb
    split at k
    · rename_i c
      exact op_pow pins s σ H _ _ v u Q I rx ry ⟨_, _, rfl, rfl, ⟨c.1, by omega, c.2.2⟩, k.ok R (Le.refl _ _) rfl⟩
    · exact k.elim
  · cases ha; cases hb
    split at k
    · rename_i c
      exact op_add_str pins s σ H _ _ v u Q I rx ry ⟨_, _, rfl, rfl, le_lim c, k.ok R (Le.refl _ _) rfl⟩
    · exact k.elim
  · cases ha; cases hb
    split at k
    · rename_i c
      split at k
      · rename_i c2
        exact mul_str_ok pins s σ H _ _ v u Q I rx ry ⟨_, _, rfl, rfl, .inl ⟨c, c2, k.ok R (Le.refl _ _) rfl⟩⟩
      · exact k.elim
    · split at k
      · rename_i c2
        exact mul_str_ok pins s σ H _ _ v u Q I rx ry ⟨_, _, rfl, rfl, .inr ⟨c2, k.ok R (Le.refl _ _) rfl⟩⟩
      · exact k.elim
  · split at k
    · rename_i xs ys e1 e2
      split at k
      · rename_i c
        obtain ⟨p, rfl, g1, _, h1, vs, rfl, c1⟩ := R.ref e1 ha
        obtain ⟨q, rfl, g2, _, h2, ws, rfl, c2⟩ := R.ref e2 hb
        refine op_cat pins s σ H _ _ v u Q I rx ry ⟨p, q, vs, ws, rfl, rfl, h1, h2, by rw [← c1.length, ← c2.length]; exact le_lim c, fun p hp => ?_⟩
        obtain ⟨R', l⟩ := R.new (o := .lst (xs ++ ys)) hp ⟨_, rfl, c1.append c2⟩
        refine k.ok R' l ⟨p, ?_, rfl⟩
        rw [← R.len]
        simp
      · exact k.elim
    · exact k.elim
  · exact k.elim
end
end FE

namespace FE
open PySem L2
/-! ### data -/
section
variable {G : GI} {ρ : List Addr} {S : Store} {H : Hp}
theorem dpAll_of {K : PySem.W.Frag} {f : MV → Option PyData} : ∀ {xs : List MV} {vs : List V} {ds : List PyData}, (∀ x d w, f x = some d → VRel G ρ H x w → Dp K H w d) → mapO f xs = some ds → VRels G ρ H xs vs → DpAll K H vs ds
  | [], _, ds, _, e, h => by cases h; simp [mapO] at e; subst e; exact .nil
  | x :: xs, _, ds, ih, e, h => by
    obtain ⟨v, r, rfl, hv, t⟩ := h
    simp only [mapO] at e
    split at e
    · cases e
    · rename_i y q
      split at e
      · cases e
      · rename_i ys q2
        cases e
        exact .cons (ih x y v q hv) (dpAll_of ih q2 t)
theorem dp_of {K : PySem.W.Frag} (hK : K = G.K) (R : Rel G ρ S H) : ∀ (n : Nat) (x : MV) (d : PyData) (w : V), dat n S x = some d → VRel G ρ H x w → Dp K H w d
  | 0, x, d, w, e, _ => by simp [dat] at e
  | n + 1, x, d, w, e, h => by
    unfold dat at e
    split at e
    · cases h; cases e; exact .non
    · cases h; cases e; exact .bl _
    · cases h; cases e; exact .int _
    · cases h; cases e; exact .str _
    · obtain ⟨p, vs, rfl, hp, hs⟩ := h
      rw [Option.map_eq_some_iff] at e
      obtain ⟨ds, e1, rfl⟩ := e
      exact .tup (by rw [hK]; exact hp) (dpAll_of (fun x d w => dp_of hK R n x d w) e1 hs)
    · split at e
      · rename_i xs q
        obtain ⟨a, rfl, _, u, hu, vs, rfl, c⟩ := R.ref q h
        rw [Option.map_eq_some_iff] at e
        obtain ⟨ds, e1, rfl⟩ := e
        exact .lst (.inl (.inl hu)) (dpAll_of (fun x d w => dp_of hK R n x d w) e1 c)
      · rename_i xs q
        obtain ⟨a, rfl, _, ob, u, hu, vs, rfl, c⟩ := R.ref q h
        rw [Option.map_eq_some_iff] at e
        obtain ⟨ds, e1, rfl⟩ := e
        exact .lst (.inl (.inr ⟨ob, hu⟩)) (dpAll_of (fun x d w => dp_of hK R n x d w) e1 c)
      · cases e
    · cases e
end
theorem sign1_str {a : Str} {c : Nat} (h : sign1 a = some c) : a = ⟨#[c]⟩ := by
  unfold sign1 at h
  split at h
  · rename_i d e
    cases h
    cases a with
    | mk cps =>
      congr
      rw [← Array.toArray_toList (xs := cps)]
      show _ = [c].toArray
      rw [show cps.toList = [c] from e]
  · cases h
theorem isNon_iff {x : MV} {G : GI} {ρ : List Addr} {H : Hp} {v : V} (h : VRel G ρ H x v) : isNon x = decide (v = .non) := by
  cases x
  case non => cases h; rfl
  case tup => obtain ⟨p, vs, rfl, _⟩ := h; rfl
  case ref => obtain ⟨p, _, rfl⟩ := h; rfl
  all_goals (cases h; rfl)
theorem nox_cmp (op : COp) (x y : MV) (S : Store) : NoX (blO (cmpV op x y S) S) := by
  unfold blO
  split <;> trivial
theorem K1.bl_ok {G : GI} {ρ : List Addr} {S : Store} {H : Hp} {o : Option Bool} {Q : VK} {W : Exn → List Addr → Hp → Prop} (k : K1 G ρ H (blO o S) (RV G) Q W) (R : Rel G ρ S H) : ∃ b, o = some b ∧ Q (.bl b) H := by
  cases o with
  | none => exact k.elim
  | some b => exact ⟨b, rfl, k.ok R (Le.refl _ _) rfl⟩
section
variable {X : Cx} {G : GI}
theorem op_cmp (hK : X.K = G.K) (hu : X.A.units + 64 < cLine) (op : COp) : OpR X (compareOp (cmpOf op)) (rOp0 G fun x y S => blO (cmpV op x y S) S) := by
  intro pins s σ H x y v u Q I rx ry h
  obtain ⟨ρ, S, a, b, R, ha, hb, k⟩ := h
  obtain ⟨c, e, q⟩ := k.bl_ok R
  unfold cmpV at e
  split at e
  · unfold datE at e
    split at e
    · rename_i d1 d2 e1 e2
      split at e
      · rename_i hs
        cases e
        obtain ⟨s1, s2⟩ := Bool.and_eq_true_iff.mp hs
        exact op_eqD hu pins s σ H x y v u Q I rx ry ⟨d1, d2, dp_of hK R _ _ _ _ e1 ha, dp_of hK R _ _ _ _ e2 hb, s1, s2, q⟩
      · cases e
    · cases e
  · rw [Option.map_eq_some_iff] at e
    obtain ⟨c', e, rfl⟩ := e
    unfold datE at e
    split at e
    · rename_i d1 d2 e1 e2
      split at e
      · rename_i hs
        cases e
        obtain ⟨s1, s2⟩ := Bool.and_eq_true_iff.mp hs
        exact op_neD hu pins s σ H x y v u Q I rx ry ⟨d1, d2, dp_of hK R _ _ _ _ e1 ha, dp_of hK R _ _ _ _ e2 hb, s1, s2, q⟩
      · cases e
    · cases e
  · split at e
    · rename_i hy
      cases e
      rw [isNon_iff hb] at hy
      exact op_isN pins s σ H x y v u Q I rx ry ⟨of_decide_eq_true hy, by rw [← isNon_iff ha]; exact q⟩
    · cases e
  · split at e
    · rename_i hy
      cases e
      rw [isNon_iff hb] at hy
      exact op_notN pins s σ H x y v u Q I rx ry ⟨of_decide_eq_true hy, by rw [← isNon_iff ha]; exact q⟩
    · cases e
  · split at e
    · cases e; cases ha; cases hb
      exact op_lt pins s σ H _ _ v u Q I rx ry ⟨_, _, rfl, rfl, q⟩
    · cases e
  · split at e
    · cases e; cases ha; cases hb
      exact op_le pins s σ H _ _ v u Q I rx ry ⟨_, _, rfl, rfl, q⟩
    · cases e
  · split at e
    · cases e; cases ha; cases hb
      exact op_gt pins s σ H _ _ v u Q I rx ry ⟨_, _, rfl, rfl, q⟩
    · cases e
  · split at e
    · cases e; cases ha; cases hb
      exact op_ge pins s σ H _ _ v u Q I rx ry ⟨_, _, rfl, rfl, q⟩
    · cases e
  · unfold inV at e
    split at e
    · split at e
      · rename_i a' b' c' hs
        cases e; cases ha; cases hb
        exact op_in_sign pins s σ H _ _ v u Q I rx ry ⟨c', _, by rw [sign1_str hs], rfl, q⟩
      · cases e
    · cases e
  · rw [Option.map_eq_some_iff] at e
    obtain ⟨c', e, rfl⟩ := e
    unfold inV at e
    split at e
    · split at e
      · rename_i a' b' c' hs
        cases e; cases ha; cases hb
        exact op_notIn_sign pins s σ H _ _ v u Q I rx ry ⟨c', _, by rw [sign1_str hs], rfl, q⟩
      · cases e
    · cases e
end
end FE
/-! FEf: expressions. -/
namespace FE
open PySem L2

section
variable {G : GI} {W : WX} {d : Slots → Store → Out MV} {σ : St} {H : Hp}
theorem T.mono {Q Q' : VK} (h : T G d W σ H Q) (i : ∀ x H1, Q x H1 → Q' x H1) : T G d W σ H Q' := by
  obtain ⟨ρ, S, m, R, s, k⟩ := h
  exact ⟨ρ, S, m, R, s, k.mono i⟩
theorem TAs.mono {d : Slots → Store → Out (List MV)} {Q Q' : List V → Hp → Prop} (h : TAs G d W σ H Q) (i : ∀ x H1, Q x H1 → Q' x H1) : TAs G d W σ H Q' := by
  obtain ⟨ρ, S, m, R, s, k⟩ := h
  exact ⟨ρ, S, m, R, s, k.mono i⟩
theorem Tb.mono {Q Q' : Bool → Hp → Prop} (h : Tb G d W σ H Q) (i : ∀ x H1, Q x H1 → Q' x H1) : Tb G d W σ H Q' := by
  obtain ⟨ρ, S, m, R, s, k⟩ := h
  exact ⟨ρ, S, m, R, s, k.mono i⟩
end
/-! ### truth -/
section
variable {X : Cx} {G : GI} {ρ : List Addr} {S : Store} {H : Hp}
theorem isEmpty_of_rels : ∀ {xs : List MV} {vs : List V}, VRels G ρ H xs vs → xs.isEmpty = vs.isEmpty
  | [], _, h => by cases h; rfl
  | x :: xs, _, h => by obtain ⟨v, r, rfl, _⟩ := h; rfl
theorem isEmpty_of_krel {κ : Type} : ∀ {xs : List (κ × MV)} {vs : List (κ × V)}, KRel G ρ H xs vs → xs.isEmpty = vs.isEmpty
  | [], _, h => by cases h; rfl
  | (k, x) :: xs, _, h => by obtain ⟨v, r, rfl, _⟩ := h; rfl
theorem tru_of (hK : X.K = G.K) (R : Rel G ρ S H) {v : MV} {w : V} {b : Bool} (h : truth v S = some b) (r : VRel G ρ H v w) : TruV X.K w H b := by
  unfold truth at h
  split at h
  · cases r; cases h; rfl
  · cases r; cases h; rfl
  · cases r; cases h; rfl
  · cases r
    split at h
    · rename_i c
      cases h
      exact ⟨le_lim c, rfl⟩
    · cases h
  · obtain ⟨p, vs, rfl, hp, hs⟩ := r
    cases h
    exact .inr (.inl ⟨vs, by rw [hK]; exact hp, by rw [isEmpty_of_rels hs]⟩)
  · split at h
    · rename_i xs e
      cases h
      obtain ⟨a, rfl, _, u, hu, vs, rfl, c⟩ := R.ref e r
      exact .inl ⟨vs, .inl (.inl hu), by rw [isEmpty_of_rels c]⟩
    · rename_i xs e
      cases h
      obtain ⟨a, rfl, _, ob, u, hu, vs, rfl, c⟩ := R.ref e r
      exact .inl ⟨vs, .inl (.inr ⟨ob, hu⟩), by rw [isEmpty_of_rels c]⟩
    · rename_i kvs e
      cases h
      obtain ⟨a, rfl, _, u, hu, vs, rfl, c⟩ := R.ref e r
      exact .inr (.inr ⟨vs, hu, by rw [isEmpty_of_krel c]⟩)
    · cases h
  · cases h
end
section
variable {X : Cx} {G : GI} {W : WX} {a b c : Expr} {da db dc d : Slots → Store → Out MV} {pos : Pos}
theorem je_le (h : PE X a (T G da W)) (e : ∀ m S, d m S = da m S) : PE X a (T G d W) := h.imp fun σ H Q q => by
  obtain ⟨ρ, S, m, R, s, k⟩ := q
  exact ⟨ρ, S, m, R, s, by rw [← e]; exact k⟩
/-- a test by its value's truth -/
theorem jt_val (hK : X.K = G.K) (ha : PE X a (T G da W)) (he : ∀ whole, isTrue a X.env whole = (do let v ← whole; standAt a.pos; holding [v] (truthy v))) : PT X a (Tb G da W) :=
  (pt_truth ha he).imp fun σ H Q q => by
    obtain ⟨ρ, S, m, R, s, k⟩ := q
    refine ⟨ρ, S, m, R, s, (K1.bind (R := RV G) k).mono fun w H1 ⟨ρ1, S1, v, l, r, hv, q⟩ => ?_⟩
    split at q
    · rename_i b e
      exact ⟨b, tru_of hK r e hv, q.ok r (Le.refl _ _) rfl⟩
    · exact q.elim
theorem tst_eq {m : Slots} {S : Store} {da : Slots → Store → Out MV} {v : MV} {S1 : Store} (h : da m S = .ok v S1) : tst da m S = match truth v S1 with
    | some b => .ok b S1
    | none => .stuck := by
  unfold tst
  rw [h]
  rfl
theorem tst_ok {m : Slots} {S : Store} {da : Slots → Store → Out MV} {b : Bool} {S1 : Store} (h : tst da m S = .ok b S1) : ∃ v, da m S = .ok v S1 ∧ truth v S1 = some b := by
  unfold tst at h
  cases q : da m S with
  | ok v S2 =>
    rw [q] at h
    simp only [Out.bind_ok] at h
    split at h
    · rename_i c e
      cases h
      exact ⟨v, rfl, e⟩
    · cases h
  | exc e S2 => rw [q] at h; cases h
  | stuck => rw [q] at h; cases h
/-- a test's reading against the whole: what comes behind it -/
theorem Tb.seq {f : Bool → Slots → Store → Out MV} {Q : VK} {σ : St} {H : Hp} (h : T G d W σ H Q) (e : ∀ m S, d m S = (tst da m S).bind fun v S1 => f v m S1) :
    Tb G da W σ H fun x H1 => ∃ ρ S m, Rel G ρ S H1 ∧ SRel G ρ H1 m σ ∧ K1 G ρ H1 (f x m S) (RV G) Q (exW G W σ) := by
  obtain ⟨ρ, S, m, R, s, k⟩ := h
  rw [e] at k
  refine ⟨ρ, S, m, R, s, (K1.bind (R := fun _ _ (b c : Bool) => b = c) k).mono fun w H1 ⟨ρ1, S1, v, l, r, hv, q⟩ => ?_⟩
  subst hv
  exact ⟨ρ1, S1, m, r, s.le R l, q⟩
theorem je_ife (hc : PT X c (Tb G dc W)) (ha : PE X a (T G da W)) (hb : PE X b (T G db W)) (e : ∀ m S, d m S = (tst dc m S).bind fun v S1 => if v = true then da m S1 else db m S1) : PE X (.IfExp c a b pos) (T G d W) :=
  (pe_ifExp hc ha hb).imp fun σ H Q h => (Tb.seq h e).mono fun x H1 ⟨ρ, S, m, R, s, k⟩ => by
    cases x
    · exact ⟨ρ, S, m, R, s, k⟩
    · exact ⟨ρ, S, m, R, s, k⟩
/-- tests' readings of not, and, or, if -/
theorem Tb.seqB {f : Bool → Slots → Store → Out Bool} {Q : Bool → Hp → Prop} {σ : St} {H : Hp} (h : Tb G d W σ H Q) (e : ∀ m S, tst d m S = (tst da m S).bind fun v S1 => f v m S1) :
    Tb G da W σ H fun x H1 => ∃ ρ S m, Rel G ρ S H1 ∧ SRel G ρ H1 m σ ∧ K1 G ρ H1 (f x m S) (fun _ _ (b c : Bool) => b = c) Q (exW G W σ) := by
  obtain ⟨ρ, S, m, R, s, k⟩ := h
  rw [e] at k
  refine ⟨ρ, S, m, R, s, (K1.bind (R := fun _ _ (b c : Bool) => b = c) k).mono fun w H1 ⟨ρ1, S1, v, l, r, hv, q⟩ => ?_⟩
  subst hv
  exact ⟨ρ1, S1, m, r, s.le R l, q⟩
theorem jt_not (ha : PT X a (Tb G da W)) (e : ∀ m S, tst d m S = (tst da m S).bind fun v S1 => .ok (!v) S1) : PT X (.UnaryOp .Not a pos) (Tb G d W) :=
  (pt_not ha).imp fun σ H Q h => (Tb.seqB h e).mono fun x H1 ⟨ρ, S, m, R, s, k⟩ => k.ok R (Le.refl _ _) rfl
theorem jt_ife (hc : PT X c (Tb G dc W)) (ha : PT X a (Tb G da W)) (hb : PT X b (Tb G db W)) (e : ∀ m S, tst d m S = (tst dc m S).bind fun v S1 => if v = true then tst da m S1 else tst db m S1) : PT X (.IfExp c a b pos) (Tb G d W) := by
  refine ⟨fun pins s σ H Q I h => ?_⟩
  refine PyProof.Rows.isTrue_IfExp (thn (hc.run pins s σ H _ I (Tb.seqB h e)) fun d s1 ⟨H1, I1, ρ, S, m, R, sr, k⟩ => ?_)
  cases d with
  | true => exact ha.run pins s1 σ H1 Q I1 ⟨ρ, S, m, R, sr, k⟩
  | false => exact hb.run pins s1 σ H1 Q I1 ⟨ρ, S, m, R, sr, k⟩
theorem jw_and {rest : List Expr} (ha : PT X a (Tb G da W)) (hb : PW X (.BoolOp .And (b :: rest) pos) (Tb G db W)) (e : ∀ m S, tst d m S = (tst da m S).bind fun v S1 => if v = true then tst db m S1 else .ok false S1) :
    PW X (.BoolOp .And (a :: b :: rest) pos) (Tb G d W) :=
  (pw_and ha hb).imp fun σ H Q h => (Tb.seqB h e).mono fun x H1 ⟨ρ, S, m, R, s, k⟩ => by
    cases x
    · exact k.ok R (Le.refl _ _) rfl
    · exact ⟨ρ, S, m, R, s, k⟩
theorem jw_or {rest : List Expr} (ha : PT X a (Tb G da W)) (hb : PW X (.BoolOp .Or (b :: rest) pos) (Tb G db W)) (e : ∀ m S, tst d m S = (tst da m S).bind fun v S1 => if v = true then .ok true S1 else tst db m S1) :
    PW X (.BoolOp .Or (a :: b :: rest) pos) (Tb G d W) :=
  (pw_or ha hb).imp fun σ H Q h => (Tb.seqB h e).mono fun x H1 ⟨ρ, S, m, R, s, k⟩ => by
    cases x
    · exact ⟨ρ, S, m, R, s, k⟩
    · exact k.ok R (Le.refl _ _) rfl
/-- as values -/
theorem je_and (hK : X.K = G.K) {rest : List Expr} (ha : PE X a (T G da W)) (hb : PE X (.BoolOp .And (b :: rest) pos) (T G db W)) (e : ∀ m S, d m S = (da m S).bind fun x S1 => match truth x S1 with
    | some true => db m S1
    | some false => .ok x S1
    | none => .stuck) : PE X (.BoolOp .And (a :: b :: rest) pos) (T G d W) :=
  (pe_andT ha hb).imp fun σ H Q h => (T.seq h e).mono fun x H1 ⟨ρ, S, m, v, R, s, hv, k⟩ => by
    split at k
    · rename_i q; exact ⟨true, tru_of hK R q hv, iteT ⟨ρ, S, m, R, s, k⟩⟩
    · rename_i q; exact ⟨false, tru_of hK R q hv, iteF (k.ok R (Le.refl _ _) hv)⟩
    · exact k.elim
theorem je_or (hK : X.K = G.K) {rest : List Expr} (ha : PE X a (T G da W)) (hb : PE X (.BoolOp .Or (b :: rest) pos) (T G db W)) (e : ∀ m S, d m S = (da m S).bind fun x S1 => match truth x S1 with
    | some true => .ok x S1
    | some false => db m S1
    | none => .stuck) : PE X (.BoolOp .Or (a :: b :: rest) pos) (T G d W) :=
  (pe_orT ha hb).imp fun σ H Q h => (T.seq h e).mono fun x H1 ⟨ρ, S, m, v, R, s, hv, k⟩ => by
    split at k
    · rename_i q; exact ⟨true, tru_of hK R q hv, iteT (k.ok R (Le.refl _ _) hv)⟩
    · rename_i q; exact ⟨false, tru_of hK R q hv, iteF ⟨ρ, S, m, R, s, k⟩⟩
    · exact k.elim
theorem je_not (hK : X.K = G.K) (ha : PE X a (T G da W)) (e : ∀ m S, d m S = (da m S).bind fun x S1 => blO ((truth x S1).map (!·)) S1) : PE X (.UnaryOp .Not a pos) (T G d W) :=
  (pe_notT ha).imp fun σ H Q h => (T.seq (f := fun x _ S1 => blO ((truth x S1).map (!·)) S1) h e).mono fun x H1 ⟨ρ, S, m, v, R, s, hv, k⟩ => by
    obtain ⟨b, e1, q⟩ := k.bl_ok R
    rw [Option.map_eq_some_iff] at e1
    obtain ⟨c, e1, rfl⟩ := e1
    exact ⟨c, tru_of hK R e1 hv, q⟩
/-! ### names, constants -/
theorem je_slot {i : Nat} {x : Str} (hN : X.N[i]? = some x) (hv : Vis X.env.scope x) (hd : (x == ("__debug__" : Str)) = false) (hcd : (x == ("__classdict__" : Str)) = false) (e : ∀ (m : Slots) S, d m S = match m[i]? with
    | some (some v) => .ok v S
    | _ => .stuck) : PE X (.Name x pos) (T G d W) :=
  (pe_var hN hv hd hcd).imp fun σ H Q ⟨ρ, S, m, R, s, k⟩ => by
    rw [e] at k
    split at k
    · rename_i v q
      obtain ⟨w, e1, e2⟩ := s.get i v q
      exact ⟨w, e1, k.ok R (Le.refl _ _) e2⟩
    · exact k.elim
/-- an expression whose value is known -/
theorem je_c {x : Expr} {v : MV} {w : V} (h : PE X x (tC w)) (r : ∀ ρ H, VRel G ρ H v w) (e : ∀ m S, d m S = .ok v S) : PE X x (T G d W) :=
  h.imp fun σ H Q ⟨ρ, S, m, R, s, k⟩ => by
    rw [e] at k
    exact k.ok R (Le.refl _ _) (r _ _)
theorem je_neg (ha : PE X a (T G da W)) (e : ∀ m S, d m S = (da m S).bind fun x S1 => match x with
    | .int i => .ok (.int (-i)) S1
    | _ => .stuck) : PE X (.UnaryOp .USub a pos) (T G d W) :=
  (pe_un un_neg ha).imp fun σ H Q h => (T.seq (f := fun x _ S1 => match x with
    | .int i => .ok (.int (-i)) S1
    | _ => .stuck) h e).mono fun x H1 ⟨ρ, S, m, v, R, s, hv, k⟩ => by
    split at k
    · cases hv
      exact ⟨_, rfl, k.ok R (Le.refl _ _) rfl⟩
    · exact k.elim
theorem blO_bl {o : Option Bool} {S S1 : Store} {v : MV} (h : blO o S = .ok v S1) : ∃ b, v = .bl b := by
  cases o with
  | none => cases h
  | some b => cases h; exact ⟨b, rfl⟩
theorem bind_ok {α β : Type} {o : Out α} {f : α → Store → Out β} {v : β} {S1 : Store} (h : o.bind f = .ok v S1) : ∃ x S, o = .ok x S ∧ f x S = .ok v S1 := by
  cases o with
  | ok x S => exact ⟨x, S, rfl, h⟩
  | exc e S => cases h
  | stuck => cases h
theorem chain_bl {o1 o2 : COp} {m : Slots} {S S1 : Store} {v : MV} (h : ((da m S).bind fun x S1 => (db m S1).bind fun y S2 => match cmpV o1 x y S2 with
      | some true => (dc m S2).bind fun z S3 => blO (cmpV o2 y z S3) S3
      | some false => .ok (.bl false) S2
      | none => .stuck) = .ok v S1) : ∃ b, v = .bl b := by
  obtain ⟨x, S2, _, h⟩ := bind_ok h
  obtain ⟨y, S3, _, h⟩ := bind_ok h
  split at h
  · obtain ⟨z, S4, _, h⟩ := bind_ok h
    exact blO_bl h
  · cases h; exact ⟨_, rfl⟩
  · cases h
theorem je_chain (hK : X.K = G.K) (hu : X.A.units + 64 < cLine) {o1 o2 : COp} (ha : PE X a (T G da W)) (hb : PE X b (T G db W)) (hc : PE X c (T G dc W)) (hm : lastMarks [cmpOf o1, cmpOf o2] [b, c] = false)
    (e : ∀ m S, d m S = (da m S).bind fun x S1 => (db m S1).bind fun y S2 => match cmpV o1 x y S2 with
      | some true => (dc m S2).bind fun z S3 => blO (cmpV o2 y z S3) S3
      | some false => .ok (.bl false) S2
      | none => .stuck) : PE X (.Compare a [cmpOf o1, cmpOf o2] [b, c] pos) (T G d W) ∧ PT X (.Compare a [cmpOf o1, cmpOf o2] [b, c] pos) (Tb G d W) := by
  have key : ∀ σ H Q, T G d W σ H Q → tChain (rOp0 G fun x y S => blO (cmpV o1 x y S) S) (rOp0 G fun x y S => blO (cmpV o2 x y S) S) (T G da W) (T G db W) (T G dc W) σ H Q := fun σ H Q h => by
    refine (T.seq h e).mono fun x H1 ⟨ρ, S, m, v, R, s, hv, k⟩ => ⟨ρ, S, m, R, s, ?_⟩
    refine (K1.bind (R := RV G) k).mono fun y H2 ⟨ρ1, S1, u, l, r, hu, q⟩ => ?_
    refine ⟨ρ1, S1, v, u, r, hv.le R l, hu, ?_⟩
    cases e1 : cmpV o1 v u S1 with
    | none => rw [e1] at q; exact q.elim
    | some b1 =>
      rw [e1] at q
      show K1 G ρ1 H2 (blO (cmpV o1 v u S1) S1) _ _ _
      rw [e1]
      intro ρ2 H3 w l2 r2 hw
      cases (show w = V.bl b1 from hw)
      cases b1 with
      | false => exact ⟨false, rfl, iteF (q.ok r2 l2 rfl)⟩
      | true =>
        refine ⟨true, rfl, iteT ⟨ρ2, S1, m, r2, (s.le R l).le r l2, ?_⟩⟩
        refine (K1.bind (R := RV G) (q.le l2)).mono fun z H4 ⟨ρ3, S3, t, l3, r3, ht, q3⟩ => ?_
        exact ⟨ρ3, S3, u, t, r3, (hu.le r l2).le r2 l3, ht, q3.nox (nox_cmp _ _ _ _)⟩
  exact ⟨(pe_chain (op_cmp hK hu o1) (op_cmp hK hu o2) ha hb hc hm).imp key, (pt_chain (op_cmp hK hu o1) (op_cmp hK hu o2) ha hb hc hm).imp fun σ H Q ⟨ρ, S, m, R, s, k⟩ => by
    refine key σ H _ ⟨ρ, S, m, R, s, ?_⟩
    unfold tst at k
    cases hd : d m S with
    | stuck => rw [hd] at k; exact k.elim
    | exc x S1 => rw [hd] at k; exact k
    | ok v S1 =>
      rw [hd] at k
      obtain ⟨b, rfl⟩ := chain_bl ((e m S).symm.trans hd)
      exact fun ρ' H' w l r hv => ⟨b, hv, k.ok r l rfl⟩⟩
end
end FE
/-! FEg: displays, arguments, subscripts, builtins' calls. -/
namespace FE
open PySem L2

section
variable {X : Cx} {G : GI} {W : WX} {a b : Expr} {es : List Expr} {da db : Slots → Store → Out MV} {dA dB : Slots → Store → Out (List MV)} {d : Slots → Store → Out MV} {pos : Pos}
theorem TAs.seq {f : List MV → Slots → Store → Out MV} {Q : VK} {σ : St} {H : Hp} (h : T G d W σ H Q) (e : ∀ m S, d m S = (dA m S).bind fun v S1 => f v m S1) :
    TAs G dA W σ H fun x H1 => ∃ ρ S m v, Rel G ρ S H1 ∧ SRel G ρ H1 m σ ∧ VRels G ρ H1 v x ∧ K1 G ρ H1 (f v m S) (RV G) Q (exW G W σ) := by
  obtain ⟨ρ, S, m, R, s, k⟩ := h
  rw [e] at k
  refine ⟨ρ, S, m, R, s, (K1.bind (R := RVs G) k).mono fun w H1 ⟨ρ1, S1, v, l, r, hv, q⟩ => ?_⟩
  exact ⟨ρ1, S1, m, v, r, s.le R l, hv, q⟩
theorem ja_nil (e : ∀ m S, dA m S = .ok [] S) : PA X [] (TAs G dA W) := pa_nil.imp fun σ H Q ⟨ρ, S, m, R, s, k⟩ => by
  rw [e] at k
  exact k.ok R (Le.refl _ _) rfl
theorem ja_cons (ha : PE X a (T G da W)) (hr : PA X es (TAs G dB W)) (hs : starEach (a :: es) X.env = (false, eval a X.env) :: starEach es X.env) (e : ∀ m S, dA m S = (da m S).bind fun x S1 => (dB m S1).bind fun xs S2 => .ok (x :: xs) S2) :
    PA X (a :: es) (TAs G dA W) := (pa_cons ha hr hs).imp fun σ H Q ⟨ρ, S, m, R, s, k⟩ => by
  rw [e] at k
  refine ⟨ρ, S, m, R, s, (K1.bind (R := RV G) k).mono fun x H1 ⟨ρ1, S1, v, l, r, hv, q⟩ => ⟨ρ1, S1, m, r, s.le R l, (K1.bind (R := RVs G) q).mono fun xs H2 ⟨ρ2, S2, vs, l2, r2, hvs, q2⟩ => ?_⟩⟩
  exact q2.ok r2 (Le.refl _ _) ⟨x, xs, rfl, hv.le r l2, hvs⟩
theorem je_tup {k : Nat} (h : PA X es (TAs G dA W)) (hl : ∀ m S v S1, dA m S = .ok v S1 → v.length ≤ lim) (e : ∀ m S, d m S = (dA m S).bind fun xs S1 => .ok (.tup xs) S1) : PE X (.Tuple es k pos) (T G d W) :=
  (pe_tup h).imp fun σ H Q ⟨ρ, S, m, R, s, k⟩ => by
    rw [e] at k
    refine ⟨ρ, S, m, R, s, ?_⟩
    cases q : dA m S with
    | stuck => rw [q] at k; exact k.elim
    | exc x S1 => rw [q] at k; exact k
    | ok v S1 =>
      rw [q] at k
      intro ρ1 H1 w l r hv
      refine ⟨by rw [← VRels.length hv]; exact le_lim (hl m S v S1 q), fun p hp => ?_⟩
      obtain ⟨R', l'⟩ := r.tupn (vs := w) hp
      exact k.ok R' (l.trans l') ⟨p, w, rfl, SqT.of upd_same, VRels.le r l' hv⟩
theorem je_lst (h : PA X es (TAs G dA W)) (hl : ∀ m S v S1, dA m S = .ok v S1 → v.length ≤ lim) (e : ∀ m S, d m S = (dA m S).bind fun xs S1 => new S1 (.lst xs)) : PE X (.List es pos) (T G d W) :=
  (pe_lst h).imp fun σ H Q ⟨ρ, S, m, R, s, k⟩ => by
    rw [e] at k
    refine ⟨ρ, S, m, R, s, ?_⟩
    cases q : dA m S with
    | stuck => rw [q] at k; exact k.elim
    | exc x S1 => rw [q] at k; exact k
    | ok v S1 =>
      rw [q] at k
      intro ρ1 H1 w l r hv
      refine ⟨by rw [← VRels.length hv]; exact le_lim (hl m S v S1 q), fun p hp => ?_⟩
      obtain ⟨R', l'⟩ := r.new (o := .lst v) hp ⟨w, rfl, hv⟩
      exact k.ok R' (l.trans l') ⟨p, by rw [← r.len]; simp, rfl⟩
/-! ### subscripts -/
theorem atI_rel {ρ : List Addr} {H : Hp} {xs : List MV} {vs : List V} {i : Int} {x : MV} (h : VRels G ρ H xs vs) (e : atI xs i = some x) : ∃ v, atI vs i = some v ∧ VRel G ρ H x v := by
  unfold atI at e ⊢
  rw [← h.length]
  cases q : ixN xs.length i with
  | none => rw [q] at e; cases e
  | some j =>
    rw [q] at e
    obtain ⟨v, e1, e2⟩ := h.get (show xs[j]? = some x from e)
    exact ⟨v, e1, e2⟩
theorem K1.one_ok {ρ : List Addr} {S : Store} {H : Hp} {o : Option MV} {Q : VK} {W : Exn → List Addr → Hp → Prop} (k : K1 G ρ H (oneO o S) (RV G) Q W) (R : Rel G ρ S H) : ∃ b, o = some b ∧ ∀ w, VRel G ρ H b w → Q w H := by
  cases o with
  | none => exact k.elim
  | some b => exact ⟨b, rfl, fun w h => k.ok R (Le.refl _ _) h⟩
theorem ix_ok (hK : X.K = G.K) : IxR X (rOp0 G fun x y S => oneO (ixV x y S) S) := by
  have key := ix_seq (X := X)
  intro value slice pins s σ H x y v u Q I rx ry h hs
  refine key value slice pins s σ H x y v u Q I rx ry ?_ hs
  obtain ⟨ρ, S, a, b, R, ha, hb, k⟩ := h
  obtain ⟨z, e, q⟩ := k.one_ok R
  unfold ixV at e
  split at e
  · cases hb
    obtain ⟨p, vs, rfl, hp, hv⟩ := ha
    obtain ⟨w, e1, e2⟩ := atI_rel hv e
    exact .inr (.inl ⟨p, vs, _, w, rfl, rfl, by rw [hK]; exact hp, e1, q w e2⟩)
  · cases hb
    split at e
    · rename_i xs e0
      obtain ⟨p, vs, rfl, hp, hv, _⟩ := rd_sql hK R e0 ha
      obtain ⟨w, e1, e2⟩ := atI_rel hv e
      exact .inl ⟨p, vs, _, w, rfl, rfl, hp, e1, q w e2⟩
    · cases e
  · cases ha
    cases hb
    split at e
    · rename_i c
      rw [Option.map_eq_some_iff] at e
      obtain ⟨c', e1, rfl⟩ := e
      exact .inr (.inr ⟨_, _, c', rfl, rfl, le_lim c, e1, q _ rfl⟩)
    · cases e
  · cases e
theorem je_ix (hK : X.K = G.K) (ha : PE X a (T G da W)) (hb : PE X b (T G db W)) (hs : PlainIx b) (e : ∀ m S, d m S = (da m S).bind fun x S1 => (db m S1).bind fun y S2 => oneO (ixV x y S2) S2) : PE X (.Subscript a b pos) (T G d W) :=
  (pe_ix (ix_ok hK) ha hb hs).imp fun σ H Q h => by
    obtain ⟨ρ, S, m, R, s, k⟩ := T.seq2 (f := fun x y S2 => oneO (ixV x y S2) S2) h e
    refine ⟨ρ, S, m, R, s, k.mono fun x H1 ⟨ρ1, S1, m1, R1, s1, k1⟩ => ⟨ρ1, S1, m1, R1, s1, k1.mono fun y H2 ⟨ρ2, S2, v, u, R2, hv, hu, k2⟩ => ⟨ρ2, S2, v, u, R2, hv, hu, k2.nox ?_⟩⟩⟩
    unfold oneO
    split <;> trivial
/-! ### builtins called by name -/
def rCall0 (G : GI) (f : List MV → Store → Out MV) : List V → Hp → VK → Prop := fun vs H Q => ∃ ρ S xs, Rel G ρ S H ∧ VRels G ρ H xs vs ∧ K1 G ρ H (f xs S) (RV G) Q (fun _ _ _ => False)
def bltVal : Blt → Value
  | .len => .builtin "len" | .abs => .builtin "abs" | .max => .builtin "max" | .min => .builtin "min" | .all => .builtin "all" | .any => .builtin "any"
  | .int => .type "int" | .str => .type "str" | .repr => .builtin "repr" | .list => .type "list" | .tuple => .type "tuple" | .dict => .type "dict"
  | .sorted => .builtin "sorted" | .sum => .builtin "sum" | .divmod => .builtin "divmod" | .set => .type "set"
def bltNm : Blt → Str
  | .len => "len" | .abs => "abs" | .max => "max" | .min => "min" | .all => "all" | .any => "any"
  | .int => "int" | .str => "str" | .repr => "repr" | .list => "list" | .tuple => "tuple" | .dict => "dict"
  | .sorted => "sorted" | .sum => "sum" | .divmod => "divmod" | .set => "set"
theorem boot_blt (b : Blt) : bootBuiltins (bltNm b) = some (bltVal b) := by
  cases b <;> decide +kernel
theorem blt_ne (b : Blt) : bltNm b ≠ "__name__" := by
  cases b <;> decide +kernel
theorem blt_nd (b : Blt) : (bltNm b == ("__debug__" : Str)) = false := by
  cases b <;> decide +kernel
theorem nox_opt {α : Type} {o : Option α} {f : α → Out MV} (h : ∀ x, NoX (f x)) : NoX (opt o f) := by
  cases o with
  | none => trivial
  | some x => exact h x
theorem nox_blt (b : Blt) (as : List MV) (S : Store) : NoX (bltV b as S) := by
  unfold bltV
  split <;> first | trivial | (split <;> trivial) | (refine nox_opt fun _ => ?_; first | trivial | (split <;> trivial) | (refine nox_opt fun _ => trivial))
theorem VRels.inv1 {G : GI} {ρ : List Addr} {H : Hp} {x : MV} {vs : List V} (h : VRels G ρ H [x] vs) : ∃ v, vs = [v] ∧ VRel G ρ H x v := by
  obtain ⟨v, r, rfl, hv, hr⟩ := h
  cases hr
  exact ⟨v, rfl, hv⟩
theorem VRels.inv2 {G : GI} {ρ : List Addr} {H : Hp} {x y : MV} {vs : List V} (h : VRels G ρ H [x, y] vs) : ∃ v w, vs = [v, w] ∧ VRel G ρ H x v ∧ VRel G ρ H y w := by
  obtain ⟨v, r, rfl, hv, hr⟩ := h
  obtain ⟨w, rfl, hw⟩ := hr.inv1
  exact ⟨v, w, rfl, hv, hw⟩
theorem K1.opt_ok {α : Type} {ρ : List Addr} {H : Hp} {o : Option α} {f : α → Out MV} {Q : VK} {W : Exn → List Addr → Hp → Prop} (k : K1 G ρ H (opt o f) (RV G) Q W) : ∃ x, o = some x ∧ K1 G ρ H (f x) (RV G) Q W := by
  cases o with
  | none => exact k.elim
  | some x => exact ⟨x, rfl, k⟩
theorem len_rel (hK : X.K = G.K) {ρ : List Addr} {S : Store} {H : Hp} (R : Rel G ρ S H) {v : MV} {w : V} {n : Nat} (h : lenV v S = some n) (r : VRel G ρ H v w) : LenV X.K w H n := by
  unfold lenV at h
  split at h
  · cases r
    split at h
    · rename_i c
      cases h
      exact ⟨le_lim c, rfl⟩
    · cases h
  · cases h
    obtain ⟨p, vs, rfl, hp, hv⟩ := r
    exact .inr ⟨vs, by rw [hK]; exact hp, by rw [hv.length]⟩
  · split at h
    · rename_i xs e
      cases h
      obtain ⟨a, vs, rfl, hp, hv, _⟩ := rd_sql hK R e r
      exact .inl ⟨vs, hp, by rw [hv.length]⟩
    · cases h
  · cases h
theorem mapO_all {α β : Type} {f : α → Option β} {P : β → Prop} (h : ∀ x y, f x = some y → P y) : ∀ {xs : List α} {ys : List β}, mapO f xs = some ys → ∀ y ∈ ys, P y
  | [], ys, e, y, hy => by simp only [mapO] at e; cases e; cases hy
  | x :: xs, ys, e, y, hy => by
    simp only [mapO] at e
    cases e1 : f x with
    | none => rw [e1] at e; cases e
    | some z =>
      rw [e1] at e
      simp only at e
      cases e2 : mapO f xs with
      | none => rw [e2] at e; cases e
      | some zs =>
        rw [e2] at e
        cases e
        rcases List.mem_cons.mp hy with rfl | q
        · exact h _ _ e1
        · exact mapO_all h e2 y q
theorem depthAll_le {n : Nat} : ∀ {ds : List PyData}, (∀ d ∈ ds, PyData.depth d ≤ n) → PyData.depthAll ds ≤ n
  | [], _ => by simp [PyData.depthAll]
  | d :: ds, h => by
    simp only [PyData.depthAll]
    have h1 := h d List.mem_cons_self
    have h2 := depthAll_le fun x hx => h x (List.mem_cons_of_mem _ hx)
    omega
theorem hasDictAll_no : ∀ {ds : List PyData}, (∀ d ∈ ds, PyData.hasDict d = false) → PyData.hasDictAll ds = false
  | [], _ => by simp [PyData.hasDictAll]
  | d :: ds, h => by
    simp only [PyData.hasDictAll]
    rw [h d List.mem_cons_self, hasDictAll_no fun x hx => h x (List.mem_cons_of_mem _ hx)]
    rfl
theorem dat_small : ∀ (n : Nat) (S : Store) (v : MV) (d : PyData), dat n S v = some d → PyData.depth d ≤ n ∧ PyData.hasDict d = false
  | 0, S, v, d, e => by simp [dat] at e
  | n + 1, S, v, d, e => by
    have key : ∀ {xs : List MV} {ds : List PyData}, mapO (dat n S) xs = some ds → PyData.depthAll ds + 1 ≤ n + 1 ∧ PyData.hasDictAll ds = false := fun h =>
      ⟨Nat.succ_le_succ (depthAll_le (mapO_all (fun x y e => (dat_small n S x y e).1) h)), hasDictAll_no (mapO_all (fun x y e => (dat_small n S x y e).2) h)⟩
    unfold dat at e
    split at e
    · cases e; exact ⟨by simp [PyData.depth], by simp [PyData.hasDict]⟩
    · cases e; exact ⟨by simp [PyData.depth], by simp [PyData.hasDict]⟩
    · cases e; exact ⟨by simp [PyData.depth], by simp [PyData.hasDict]⟩
    · cases e; exact ⟨by simp [PyData.depth], by simp [PyData.hasDict]⟩
    · obtain ⟨ds, h1, rfl⟩ := Option.map_eq_some_iff.mp e
      simpa only [PyData.depth, PyData.hasDict] using key h1
    · split at e
      · obtain ⟨ds, h1, rfl⟩ := Option.map_eq_some_iff.mp e
        simpa only [PyData.depth, PyData.hasDict] using key h1
      · obtain ⟨ds, h1, rfl⟩ := Option.map_eq_some_iff.mp e
        simpa only [PyData.depth, PyData.hasDict] using key h1
      · cases e
    · cases e
/-- repr of data -/
theorem repr_ok (hK : X.K = G.K) (hg : X.A.guards = some []) (hu : X.A.units + 64 < cLine) {pins : List (Addr × Obj)} {s : Shared} {σ : L2.St} {H : Hp} {ρ : List Addr} {S : Store} {v : MV} {w : V} {u : Value} {d : PyData} {Q : VK} (I : Inv X pins σ H s) (R : Rel G ρ S H) (hv : VRel G ρ H v w) (ru : RelV w u)
    (e : dat datF S v = some d) (hs : d.showable = true) (hl : d.shown.length ≤ lim) (q : Q (.str d.shown) H) : wpAny (model X.prog X.w) X.A (call (.builtin "repr") [u]) (EP X pins σ Q) X.xe s := by
  have D := dp_of (K := X.K) hK R datF v d w e hv
  obtain ⟨hd, hnd⟩ := dat_small _ _ _ _ e
  unfold datF at hd
  have hsz := le_lim hl
  have fin : ∀ t, EP X pins σ Q (.str d.shown t) { s with toks := s.toks + 1 } := fun t => ⟨.str d.shown, H, I.tok _, ⟨t, rfl⟩, q⟩
  cases w with
  | ref a =>
    cases ru
    obtain ⟨as, r⟩ := Dp.reads I d _ _ D rfl
    exact repr_of_reads' r hs (PyData.noDict_hsm hnd) hg (by omega) (fun _ _ e => e) (fun h' t tk hk => ⟨.str d.shown, H, I.kept (t' := tk) hk, ⟨t, rfl⟩, q⟩) hsz
  | non => cases ru; cases D; exact PySem.P.repr_of_none (fin _)
  | bl b => cases ru; cases D; exact PySem.P.repr_of_bool (fin _)
  | int i => obtain ⟨t, rfl⟩ := ru; cases D; exact PySem.P.repr_of_int (of_decide_eq_true hs) (fin _)
  | str x => obtain ⟨t, rfl⟩ := ru; cases D; exact PySem.P.repr_of_str (fin _) hsz
  | _ => cases D
theorem call_blt (hK : X.K = G.K) (hc : X.calm = true) (hgd : X.A.guards = some []) (hu : X.A.units + 64 < cLine) (b : Blt) : CallR X (bltVal b) (rCall0 G (bltV b)) := by
  intro pins s σ H vs us Q I rs h
  obtain ⟨ρ, S, xs, R, hv, k⟩ := h
  unfold bltV at k
  split at k
  · obtain ⟨v, rfl, h1⟩ := hv.inv1
    obtain ⟨n, e, k⟩ := k.opt_ok
    exact call_len pins s σ H _ us Q I rs ⟨v, n, rfl, len_rel hK R e h1, k.ok R (Le.refl _ _) rfl⟩
  · obtain ⟨v, rfl, h1⟩ := hv.inv1
    cases h1
    exact call_abs pins s σ H _ us Q I rs ⟨_, rfl, k.ok R (Le.refl _ _) rfl⟩
  · obtain ⟨v, w, rfl, h1, h2⟩ := hv.inv2
    cases h1; cases h2
    exact call_max2 hc pins s σ H _ us Q I rs ⟨_, _, rfl, k.ok R (Le.refl _ _) rfl⟩
  · obtain ⟨v, w, rfl, h1, h2⟩ := hv.inv2
    cases h1; cases h2
    exact call_min2 hc pins s σ H _ us Q I rs ⟨_, _, rfl, k.ok R (Le.refl _ _) rfl⟩
  · obtain ⟨v, rfl, h1⟩ := hv.inv1
    obtain ⟨ys, e, k⟩ := k.opt_ok
    obtain ⟨bs, e2, k⟩ := k.opt_ok
    obtain ⟨a, ws, rfl, hp, hr, _⟩ := rd_sql hK R e h1
    rw [bls_of hr e2] at hp
    exact cr_all hc pins s σ H _ us Q I rs ⟨a, bs, rfl, hp, k.ok R (Le.refl _ _) rfl⟩
  · obtain ⟨v, rfl, h1⟩ := hv.inv1
    obtain ⟨ys, e, k⟩ := k.opt_ok
    obtain ⟨bs, e2, k⟩ := k.opt_ok
    obtain ⟨a, ws, rfl, hp, hr, _⟩ := rd_sql hK R e h1
    rw [bls_of hr e2] at hp
    exact cr_any hc pins s σ H _ us Q I rs ⟨a, bs, rfl, hp, k.ok R (Le.refl _ _) rfl⟩
  · obtain ⟨v, rfl, h1⟩ := hv.inv1
    cases h1
    exact call_int1 pins s σ H _ us Q I rs (.inr ⟨_, rfl, k.ok R (Le.refl _ _) rfl⟩)
  · obtain ⟨v, rfl, h1⟩ := hv.inv1
    cases h1
    exact call_int1 pins s σ H _ us Q I rs (.inl ⟨_, rfl, k.ok R (Le.refl _ _) rfl⟩)
  · obtain ⟨v, rfl, h1⟩ := hv.inv1
    obtain ⟨d, e, k⟩ := k.opt_ok
    split at k
    · rename_i hsh
      cases rs with
      | cons r rs =>
        cases rs
        exact repr_ok hK hgd hu I R h1 r e hsh.1 hsh.2 (k.ok R (Le.refl _ _) rfl)
    · exact k.elim
  · obtain ⟨v, rfl, h1⟩ := hv.inv1
    cases h1
    split at k
    · rename_i hi
      exact call_str_int pins s σ H _ us Q I rs ⟨_, rfl, hi, k.ok R (Le.refl _ _) rfl⟩
    · exact k.elim
  · obtain ⟨v, rfl, h1⟩ := hv.inv1
    cases h1
    exact SkE.call_str_str pins s σ H _ us Q I rs ⟨_, rfl, k.ok R (Le.refl _ _) rfl⟩
  · exact k.elim
theorem je_blt (hK : X.K = G.K) (hc : X.calm = true) (hgd : X.A.guards = some []) (hu : X.A.units + 64 < cLine) (b : Blt) {p : Pos} (hg : Gl X (bltNm b)) (hm : X.mg (bltNm b) = none) (ha : PA X (a :: es) (TAs G dA W)) (hs : starEach (a :: es) X.env = (false, eval a X.env) :: starEach es X.env)
    (hpl : (backTo pos (starEach es X.env)).any (·.1) = false) (e : ∀ m S, d m S = (dA m S).bind fun xs S1 => bltV b xs S1) : PE X (.Call (.Name (bltNm b) p) (a :: es) [] pos) (T G d W) := by
  have key : ∀ σ H Q, T G d W σ H Q → tCB (rCall0 G (bltV b)) (TAs G dA W) σ H Q := fun σ H Q h => (TAs.seq (f := fun xs _ S1 => bltV b xs S1) h e).mono fun x H1 ⟨ρ, S, m, v, R, s, hv, k⟩ => ⟨ρ, S, v, R, hv, k.nox (nox_blt _ _ _)⟩
  have hb := boot_blt b
  have hc' := call_blt hK hc hgd hu b
  cases q : bltVal b with
  | builtin id =>
    rw [q] at hb hc'
    exact (pe_callB hc' hg hm hb ha (blt_ne b) (blt_nd b) hs hpl).imp key
  | type T' =>
    rw [q] at hb hc'
    exact (pe_callTy hc' hg hm hb ha (blt_ne b) (blt_nd b) hs hpl).imp key
  | _ => cases b <;> cases q
end
end FE
/-! FEh: what is walked, comprehensions. -/
namespace FE
open PySem L2

/-- an iterator of the machine does what the evaluator's does -/
def ItOk (G : GI) (ρ0 : List Addr) (H0 : Hp) (I : IT) (J : It) : Prop := ∀ ρ S H, Le ρ0 H0 ρ H → Rel G ρ S H →
  (∀ k x, k < I.count → I.item S k = some x → J.go k H ∧ ∀ v H', J.yld k H v H' → Le ρ H ρ H' ∧ Rel G ρ S H' ∧ VRel G ρ H' x v) ∧ (I.okAt S = true → J.stop I.count H)
section
variable {G : GI} {ρ ρ' : List Addr} {S : Store} {H H' : Hp}
theorem strs_list {G : GI} {ρ : List Addr} {H : Hp} : ∀ (cs : List Nat) (k : Nat) (x : MV), (cs.map fun c => MV.str ⟨#[c]⟩)[k]? = some x → ∃ c, cs[k]? = some c ∧ x = .str ⟨#[c]⟩ := by
  intro cs k x h
  rw [List.getElem?_map] at h
  cases q : cs[k]? with
  | none => rw [q] at h; cases h
  | some c => rw [q] at h; cases h; exact ⟨c, rfl, rfl⟩
theorem item_lst {i n k : Nat} {x : MV} (h : (IT.lst i n).item S k = some x) : ∃ xs, rdL S i = some xs ∧ xs.length = n ∧ xs[k]? = some x := by
  simp only [IT.item] at h
  cases e : rdL S i with
  | none => rw [e] at h; cases h
  | some xs =>
    rw [e] at h
    have h' : (if xs.length = n then xs[k]? else none) = some x := h
    by_cases hl : xs.length = n
    · rw [if_pos hl] at h'; exact ⟨xs, rfl, hl, h'⟩
    · rw [if_neg hl] at h'; cases h'
theorem sql_uniq {X : Cx} {pins : List (Addr × Obj)} {σ : St} {s : Shared} (I : Inv X pins σ H s) {a : Addr} {xs ys : List V} (h : SqL X.K H a xs) (h' : SqL X.K H a ys) : xs = ys := I.list_inj h h'
end
section
variable {X : Cx} {G : GI} {pins : List (Addr × Obj)} {σ : St} {s : Shared} {ρ : List Addr} {S : Store} {H : Hp}
/-- a tuple that stands in the ground of K or in the heap is one -/
theorem it_ok (hK : X.K = G.K) {tg : Expr} {mv : MV} {x : V} {v : Value} {IT0 : IT} {R0 : It → Hp → Prop} (I : Inv X pins σ H s) (R : Rel G ρ S H) (hv : VRel G ρ H mv x) (rx : RelV x v) (e : itOf mv S = some IT0)
    (q : ∀ J, ItOk G ρ H IT0 J → R0 J H) : wpAny (model X.prog X.w) X.A (pyIter v) (PIE X pins σ tg R0) X.xe s := by
  unfold itOf at e
  split at e
  · rename_i xs
    cases e
    obtain ⟨a, vs, rfl, ha, hs⟩ := hv
    cases rx
    have ha' : SqT X.K H a vs := by rw [hK]; exact ha
    obtain ⟨its, rv, p, hz⟩ := I.tuple ha'
    refine wpAny_pyIter_tuple (show s.heap.IsTuple a its.toArray from p) ?_
    refine ⟨s.heap.objs.size, [s.heap.objs.size], _, _, H, rfl, I.kept (t' := s.toks) fun b o e => Heap.get?_push_of_some _ e, turn_tuple a _, ⟨_, Heap.get?_push_size _ rfl, rfl, rfl⟩, fun b hb => ?_, q _ ?_⟩
    · have e : b = s.heap.objs.size := by simpa using hb
      subst e
      exact I.fpOk (Nat.le_refl _) (I.hok.fresh (Nat.le_refl _))
    · intro ρ' S' H' l r
      have hq : SqT X.K H' a vs := (l.ext R).sqt ha'
      refine ⟨fun k y _ hy => ?_, fun _ => ⟨vs, hq, by rw [← hs.length]; exact Nat.le_refl _⟩⟩
      obtain ⟨w, e1, e2⟩ := hs.get (show xs[k]? = some y from hy)
      refine ⟨⟨vs, w, hq, e1⟩, fun v H2 ⟨e3, e4⟩ => ?_⟩
      subst e3
      have := e4 vs hq
      rw [e1] at this
      cases this
      exact ⟨Le.refl _ _, r, e2.le R l⟩
  · rename_i z
    cases e
    cases hv
    obtain ⟨t, rfl⟩ := rx
    have key : ItOk G ρ H (.seq (z.cps.toList.map fun c => .str ⟨#[c]⟩)) (Its z) := by
      intro ρ' S' H' l r
      refine ⟨fun k y _ hy => ?_, fun _ => ?_⟩
      · obtain ⟨c, e1, rfl⟩ := strs_list (G := G) (ρ := ρ) (H := H) _ _ _ hy
        have e2 : z.cps[k]? = some c := by simpa using e1
        refine ⟨(Array.getElem?_eq_some_iff.mp e2).1, fun v H2 ⟨e3, c', e4, e5⟩ => ?_⟩
        subst e3 e5
        rw [e2] at e4
        cases e4
        exact ⟨Le.refl _ _, r, rfl⟩
      · show z.cps.size ≤ _
        simp [IT.count]
    cases ha : z.cps.all (· < 128)
    · exact wpAny_pyIter_wide ha (pi_one (tk := s.toks) I _ (turn_str _ z t "str_iterator" (.inr rfl)) ⟨_, Heap.get?_push_size _ rfl, rfl, rfl⟩ (q _ key))
    · exact wpAny_pyIter_ascii ha (pi_one (tk := s.toks) I _ (turn_str _ z t "str_ascii_iterator" (.inl rfl)) ⟨_, Heap.get?_push_size _ rfl, rfl, rfl⟩ (q _ key))
  · rename_i i
    split at e
    · rename_i xs e0
      cases e
      obtain ⟨a, vs, rfl, hq0, _, hi⟩ := rd_sql hK R e0 hv
      cases rx
      obtain ⟨its, rv, p, hz⟩ := I.list hq0
      refine wpAny_pyIter_list p.isList ?_
      refine ⟨s.heap.objs.size, [s.heap.objs.size], _, _, H, rfl, I.kept (t' := s.toks) fun b o e => Heap.get?_push_of_some _ e, turn_list a _, ⟨_, Heap.get?_push_size _ rfl, rfl, rfl⟩, fun b hb => ?_, q _ ?_⟩
      · have e : b = s.heap.objs.size := by simpa using hb
        subst e
        exact I.fpOk (Nat.le_refl _) (I.hok.fresh (Nat.le_refl _))
      · intro ρ' S' H' l r
        have hr : VRel G ρ' H' (.ref i) (.ref a) := ⟨a, pre_get l.pre hi, rfl⟩
        refine ⟨fun k y _ hy => ?_, fun ho => ?_⟩
        · obtain ⟨ys, e1, e2, e3⟩ := item_lst hy
          obtain ⟨a', vs', ea, hq, hs, _⟩ := rd_sql hK r e1 hr
          cases ea
          obtain ⟨w, e4, e5⟩ := hs.get e3
          refine ⟨⟨vs', w, hq, e4⟩, fun v H2 ⟨e6, e7⟩ => ?_⟩
          subst e6
          have := e7 vs' hq
          rw [e4] at this
          cases this
          exact ⟨Le.refl _ _, r, e5⟩
        · simp only [IT.okAt] at ho
          split at ho
          · rename_i ys e1
            have hl := of_decide_eq_true ho
            obtain ⟨a', vs', ea, hq, hs, _⟩ := rd_sql hK r e1 hr
            cases ea
            exact ⟨vs', hq, by rw [← hs.length, hl]; exact Nat.le_refl _⟩
          · cases ho
    · cases e
  · cases e
end
/-! ### walks' readings -/
def TI0 (G : GI) (d : Slots → Store → Out IT) (W : WX) : TI := fun σ H R => ∃ ρ S m, Rel G ρ S H ∧ SRel G ρ H m σ ∧ K1 G ρ H (d m S) (ItOk G) R (exW G W σ)
section
variable {X : Cx} {G : GI} {W : WX} {a b tg : Expr} {da db : Slots → Store → Out MV} {dI : Slots → Store → Out IT} {pos : Pos}
theorem ji_seq (hK : X.K = G.K) (ha : PE X a (T G da W)) (e : ∀ m S, dI m S = (da m S).bind fun v S1 => match itOf v S1 with
    | some I => .ok I S1
    | none => .stuck) : PI X tg a (TI0 G dI W) := by
  refine ⟨fun pins s σ H R0 I h => ?_⟩
  obtain ⟨ρ, S, m, R, sr, k⟩ := h
  rw [e] at k
  refine thn (ha.run pins s σ H _ I ⟨ρ, S, m, R, sr, (K1.bind (R := RV G) k)⟩) fun v s1 ⟨x, H1, I1, r1, ρ1, S1, mv, l, r, hv, q⟩ => ?_
  split at q
  · rename_i I0 e1
    exact it_ok hK I1 r hv r1 e1 fun J hJ => q ρ1 H1 J (Le.refl _ _) r hJ
  · exact q.elim
theorem rng_ok {ρ : List Addr} {H : Hp} {lo : Int} {n : Nat} : ItOk G ρ H (.seq ((List.range n).map fun (k : Nat) => MV.int (lo + (k : Int)))) (Itr lo n) := by
  intro ρ' S' H' l r
  refine ⟨fun k y hk hy => ?_, fun _ => by show n ≤ _; simp [IT.count]⟩
  have hk' : k < n := by simpa [IT.count] using hk
  have e : y = .int (lo + k) := by
    have : (((List.range n).map fun (k : Nat) => MV.int (lo + (k : Int))))[k]? = some y := hy
    rw [List.getElem?_map, List.getElem?_range hk'] at this
    exact (Option.some.inj this).symm
  subst e
  exact ⟨hk', fun v H2 ⟨e1, e2⟩ => by subst e1 e2; exact ⟨Le.refl _ _, r, rfl⟩⟩
theorem ji_rng1 {p : Pos} (hg : Gl X "range") (hm : X.mg "range" = none) (hc : PA X [a] (TAs G (fun m S => (da m S).bind fun x S1 => .ok [x] S1) W)) (hs : starEach [a] X.env = [(false, eval a X.env)])
    (e : ∀ m S, dI m S = (da m S).bind fun v S1 => match v with
      | .int j => if -4611686018427387904 ≤ j ∧ j < 4611686018427387904 then .ok (.seq ((List.range j.toNat).map fun (k : Nat) => MV.int (k : Int))) S1 else .stuck
      | _ => .stuck) : PI X tg (.Call (.Name "range" p) [a] [] pos) (TI0 G dI W) := by
  have base := pi_range1 (tg := tg) (p := p) (pos := pos) hg hm hc hs
  refine ⟨fun pins s σ H R0 I h => base.run pins s σ H R0 I ?_⟩
  obtain ⟨ρ, S, m, R, sr, k⟩ := h
  rw [e] at k
  refine ⟨ρ, S, m, R, sr, ?_⟩
  show K1 G ρ H ((da m S).bind fun x S1 => .ok [x] S1) _ _ _
  cases q : da m S with
  | stuck => rw [q] at k; exact k.elim
  | exc x S1 => rw [q] at k; exact k
  | ok v S1 =>
    rw [q] at k
    intro ρ1 H1 w l r hw
    obtain ⟨w', rfl, hv⟩ := VRels.inv1 hw
    simp only [Out.bind_ok] at k
    split at k
    · cases hv
      split at k
      · rename_i c
        refine ⟨_, rfl, c.1, c.2, k ρ1 H1 _ l r ?_⟩
        have h0 : ∀ n : Nat, ItOk G ρ1 H1 (.seq ((List.range n).map fun (k : Nat) => MV.int (k : Int))) (Itr 0 n) := fun n => by
          have := rng_ok (G := G) (ρ := ρ1) (H := H1) (lo := 0) (n := n)
          simpa using this
        exact h0 _
      · exact k.elim
    · exact k.elim
end
/-! ### targets of names -/
def ntLen : NT → Nat
  | .cons _ t => ntLen t + 1
  | _ => 0
mutual
def gN (K : PySem.W.Frag) : NT → TG
  | .nm i => gName i
  | .tup l => gTup K (ntLen l) (gNs K l)
  | _ => fun _ _ _ _ => False
def gNs (K : PySem.W.Frag) : NT → TGs
  | .nil => gNil
  | .cons h t => gCons (gN K h) (gNs K t)
  | _ => fun _ _ _ _ => False
end
def ntNames : NT → List Nat
  | .nm i => [i]
  | .tup l => ntNames l
  | .nil => []
  | .cons h t => ntNames h ++ ntNames t
theorem wipe_set {i : Nat} {x : Option V} : ∀ {vs : List Nat} {σ : St}, i ∈ vs → wipe (σ.set i x) vs = wipe σ vs
  | v :: vs, σ, h => by
    show (wipe (σ.set i x) vs).set v none = (wipe σ vs).set v none
    by_cases q : i ∈ vs
    · rw [wipe_set q]
    · have hv : v = i := by
        rcases List.mem_cons.mp h with e | e
        · exact e.symm
        · exact absurd e q
      subst hv
      have aux : ∀ (vs : List Nat) (σ : St), v ∉ vs → wipe (σ.set v x) vs = (wipe σ vs).set v x := by
        intro vs
        induction vs with
        | nil => intro σ _; rfl
        | cons u us ih =>
          intro σ hn
          have h1 : v ≠ u := fun e => hn (by rw [e]; exact List.mem_cons_self)
          show (wipe (σ.set v x) us).set u none = ((wipe σ us).set u none).set v x
          rw [ih σ (fun e => hn (List.mem_cons_of_mem _ e)), List.set_comm _ _ h1]
      rw [aux vs σ q, List.set_set]
theorem wipe_wipe : ∀ (vs : List Nat) (σ : St), wipe (wipe σ vs) vs = wipe σ vs := by
  intro vs
  have h : ∀ (us : List Nat) (σ : St), (∀ i ∈ us, i ∈ vs) → wipe (wipe σ us) vs = wipe σ vs := by
    intro us
    induction us with
    | nil => intro σ _; rfl
    | cons u us ih =>
      intro σ hu
      show wipe ((wipe σ us).set u none) vs = wipe σ vs
      rw [wipe_set (hu u List.mem_cons_self), ih σ fun i hi => hu i (List.mem_cons_of_mem _ hi)]
  exact fun σ => h vs σ fun _ hi => hi
section
variable {G : GI} {K : PySem.W.Frag} {ρ : List Addr} {H : Hp}
theorem ntLen_of : ∀ {l : NT} {xs : List MV} {m m' : Slots}, setNs l xs m = some m' → xs.length = ntLen l
  | .nil, [], _, _, h => rfl
  | .cons h t, x :: xs, m, m', e => by
    simp only [setNs] at e
    split at e
    · rw [List.length_cons, ntLen_of e]; rfl
    · cases e
  | .nil, _ :: _, _, _, h => by simp [setNs] at h
  | .cons _ _, [], _, _, h => by simp [setNs] at h
  | .nm _, _, _, _, h => by simp [setNs] at h
  | .tup _, _, _, _, h => by simp [setNs] at h
mutual
theorem gN_ok (hK : K = G.K) : ∀ (t : NT) {mv : MV} {v : V} {m m' : Slots} {σ : St} {Q : St → Hp → Prop}, setN t mv m = some m' → VRel G ρ H mv v → SRel G ρ H m σ →
    (∀ σ', SRel G ρ H m' σ' → (∀ vs : List Nat, (∀ i ∈ ntNames t, i ∈ vs) → wipe σ' vs = wipe σ vs) → Q σ' H) → gN K t v σ H Q
  | .nm i, mv, v, m, m', σ, Q, e, hv, s, q => by
    simp only [setN] at e
    cases e
    exact q _ (s.set hv i) fun vs h => wipe_set (h i (by simp [ntNames]))
  | .tup l, mv, v, m, m', σ, Q, e, hv, s, q => by
    simp only [setN] at e
    split at e
    · rename_i xs
      obtain ⟨a, vs, rfl, ha, hs⟩ := hv
      exact ⟨a, vs, rfl, by rw [hK]; exact ha, by rw [← hs.length, ntLen_of e], gNs_ok hK l e hs s fun σ' h1 h2 => q σ' h1 h2⟩
    · cases e
  | .nil, mv, v, m, m', σ, Q, e, hv, s, q => by simp [setN] at e
  | .cons h t, mv, v, m, m', σ, Q, e, hv, s, q => by simp [setN] at e
theorem gNs_ok (hK : K = G.K) : ∀ (t : NT) {mv : List MV} {v : List V} {m m' : Slots} {σ : St} {Q : St → Hp → Prop}, setNs t mv m = some m' → VRels G ρ H mv v → SRel G ρ H m σ →
    (∀ σ', SRel G ρ H m' σ' → (∀ vs : List Nat, (∀ i ∈ ntNames t, i ∈ vs) → wipe σ' vs = wipe σ vs) → Q σ' H) → gNs K t v σ H Q
  | .nil, [], v, m, m', σ, Q, e, hv, s, q => by
    simp only [setNs] at e
    cases e
    cases hv
    exact ⟨rfl, q σ s fun _ _ => rfl⟩
  | .nil, _ :: _, v, m, m', σ, Q, e, hv, s, q => by simp [setNs] at e
  | .cons h t, [], v, m, m', σ, Q, e, hv, s, q => by simp [setNs] at e
  | .cons h t, x :: xs, v, m, m', σ, Q, e, hv, s, q => by
    simp only [setNs] at e
    split at e
    · rename_i m1 e1
      obtain ⟨w, r, rfl, h1, h2⟩ := hv
      refine ⟨w, r, rfl, gN_ok hK h e1 h1 s fun σ1 s1 w1 => gNs_ok hK t e h2 s1 fun σ2 s2 w2 => q σ2 s2 fun vs hvs => ?_⟩
      rw [w2 vs fun i hi => hvs i (by simp [ntNames, hi]), w1 vs fun i hi => hvs i (by simp [ntNames, hi])]
    · cases e
  | .nm i, mv, v, m, m', σ, Q, e, hv, s, q => by simp [setNs] at e
  | .tup i, mv, v, m, m', σ, Q, e, hv, s, q => by simp [setNs] at e
end
end
end FE

namespace FE
open PySem L2
/-! ### comprehensions -/
section
variable {G : GI} {ρ ρ' : List Addr} {S : Store} {H H' : Hp} {D : Addr}
/-- a list that the store does not know is changed -/
theorem Rel.out (R : Rel G ρ S H) {vs : List V} {u : List V} (hD : D ∉ ρ) (h : H D = some (.lst vs)) : Rel G ρ S (upd H D (.lst u)) ∧ Ext H (upd H D (.lst u)) := by
  have e : Ext H (upd H D (.lst u)) := Ext.upd h rfl
  refine ⟨⟨R.len, R.nd, fun i a o ha ho => (R.obj i a o ha ho).mono (List.prefix_refl _) e (upd_ne fun q => hD (by rw [← q]; exact List.mem_of_getElem? ha)), fun a xs ht hm => ?_⟩, e⟩
  by_cases q : a = D
  · subst q; exact hD hm
  · rw [upd_ne q] at ht
    exact R.tup a xs ht hm
theorem Le.out {ρ0 : List Addr} {H0 : Hp} (l : Le ρ0 H0 ρ H) {vs u : List V} (hn : H0 D = none) (h : H D = some (.lst vs)) : Le ρ0 H0 ρ (upd H D (.lst u)) where
  pre := l.pre
  keep := fun a o ha hm => by
    rw [upd_ne (ne_of_none ha hn)]
    exact l.keep a o ha hm
  frz := fun a o x ha => by
    rw [upd_ne (ne_of_none ha hn)]
    exact l.frz a o x ha
  new := l.new
theorem Le.notin (l : Le ρ H ρ' H') {o : HO} (hD : D ∉ ρ) (h : H D = some o) : D ∉ ρ' := fun m => by
  rcases l.new D m with q | q
  · exact hD q
  · rw [h] at q; cases q
end
section
variable {G : GI}
theorem compGo_ok {t : NT} {c e : Slots → Store → Out MV} {I : IT} {σ : Slots} {r k : Nat} {acc : List MV} {S : Store} {P : Out (List MV) → Prop} (hs : ¬ P .stuck) (h : P (compGo t c e I σ (r + 1) k acc S)) :
    ∃ x σ1 b S1 bb, I.item S k = some x ∧ setN t x σ = some σ1 ∧ c σ1 S = .ok b S1 ∧ truth b S1 = some bb ∧
      ((bb = true ∧ ∃ y S2, e σ1 S1 = .ok y S2 ∧ acc.length < lim ∧ P (compGo t c e I σ r (k + 1) (acc ++ [y]) S2)) ∨ (bb = false ∧ P (compGo t c e I σ r (k + 1) acc S1))) := by
  unfold compGo at h
  cases e1 : I.item S k with
  | none => rw [e1] at h; exact (hs h).elim
  | some x =>
    rw [e1] at h
    cases e2 : setN t x σ with
    | none => simp only [e2] at h; exact (hs h).elim
    | some σ1 =>
      simp only [e2] at h
      cases e3 : c σ1 S with
      | stuck => simp only [e3] at h; exact (hs h).elim
      | exc _ _ => simp only [e3] at h; exact (hs h).elim
      | ok b S1 =>
        simp only [e3] at h
        cases e4 : truth b S1 with
        | none => simp only [e4] at h; exact (hs h).elim
        | some bb =>
          simp only [e4] at h
          refine ⟨x, σ1, b, S1, bb, rfl, e2, e3, e4, ?_⟩
          cases bb with
          | false => exact .inr ⟨rfl, h⟩
          | true =>
            cases e5 : e σ1 S1 with
            | stuck => simp only [e5] at h; exact (hs h).elim
            | exc _ _ => simp only [e5] at h; exact (hs h).elim
            | ok y S2 =>
              simp only [e5] at h
              by_cases hl : acc.length < lim
              · rw [if_pos hl] at h; exact .inl ⟨rfl, y, S2, rfl, hl, h⟩
              · rw [if_neg hl] at h; exact (hs h).elim
end
section
variable {X : Cx} {G : GI} {W : WX} {elt tg iter : Expr} {ifs : List Expr} {scope : Scope} {own : List (Str × Nat)} {pos : Pos} {dI : Slots → Store → Out IT} {dc de d : Slots → Store → Out MV} {t : NT}
abbrev WF : WX := fun _ _ _ _ => False
/-- the test of a comprehension's clause -/
def tIf1 (G : GI) (dc : Slots → Store → Out MV) : TT := Tb G dc WF
theorem comp_lc (hK : X.K = G.K) (hown : ∀ i ∈ ntNames t, i ∈ own.map (·.2))
    (e : ∀ m S, d m S = (dI m S).bind fun I S1 => (compGo t dc de I (wipeM m (own.map (·.2))) I.count 0 [] S1).bind fun xs S2 => new S2 (.lst xs)) {σ : L2.St} {H : Hp} {Q : VK} (h : T G d W σ H Q) : tLc (TI0 G dI W) (gN X.K t) (Tb G dc WF) (T G de WF) (own.map (·.2)) σ H Q := by
  obtain ⟨ρ, S, m, R, sr, k⟩ := h
  rw [e] at k
  refine ⟨ρ, S, m, R, sr, (K1.bind (R := ItOk G) k).mono fun J H1 ⟨ρ1, S1, I, l1, r1, hJ, q⟩ => fun D hD => ?_⟩
  have hDρ1 := r1.notin hD
  let P : Out (List MV) → Prop := fun o => K1 G ρ1 H1 (o.bind fun xs S2 => new S2 (.lst xs)) (RV G) Q (exW G W σ)
  have hP : ¬ P .stuck := fun z => z
  refine ⟨fun i r Hc => ∃ ρc Sc acc vs, i + r = I.count ∧ Le ρ1 H1 ρc Hc ∧ Rel G ρc Sc Hc ∧ D ∉ ρc ∧ Hc D = some (.lst vs) ∧ VRels G ρc Hc acc vs ∧ P (compGo t dc de I (wipeM m (own.map (·.2))) r i acc Sc), ⟨I.count, ?_⟩, ?_⟩
  · refine ⟨ρ1, S1, [], [], by omega, ?_, ?_, hDρ1, upd_same, rfl, q⟩
    · exact { pre := List.prefix_refl _, keep := fun a o h _ => by rw [upd_ne (ne_of_none h hD)]; exact h, frz := fun a o x h => by rw [upd_ne (ne_of_none h hD)]; exact h, new := fun a m => .inl m }
    · refine ⟨r1.len, r1.nd, fun i a o ha ho => (r1.obj i a o ha ho).mono (List.prefix_refl _) (Ext.new hD) (upd_ne fun q => hDρ1 (by rw [← q]; exact List.mem_of_getElem? ha)), fun a xs ht hm => ?_⟩
      by_cases q : a = D
      · subst q; exact hDρ1 hm
      · rw [upd_ne q] at ht
        exact r1.tup a xs ht hm
  · rintro i r Hc ⟨ρc, Sc, acc, vs, hir, lc, rc, hDc, hDv, hvs, hp⟩
    obtain ⟨j1, j2⟩ := hJ ρc Sc Hc lc rc
    cases r with
    | zero =>
      left
      have hi0 : i = I.count := by omega
      subst hi0
      by_cases ho : I.okAt Sc = true
      · have hp' : P (.ok acc Sc) := by
          have : compGo t dc de I (wipeM m (own.map (·.2))) 0 I.count acc Sc = .ok acc Sc := by
            unfold compGo; rw [if_pos ho]
          rw [← this]; exact hp
        refine ⟨j2 ho, ?_⟩
        refine hp' (ρc ++ [D]) Hc (.ref D) ?_ ?_ ⟨D, by rw [← rc.len]; simp, rfl⟩
        · refine ⟨lc.pre.trans (List.prefix_append _ _), lc.keep, lc.frz, fun a hm => ?_⟩
          rcases List.mem_append.mp hm with z | z
          · exact lc.new a z
          · rw [List.mem_singleton.mp z]; exact .inr hD
        · have pre := List.prefix_append ρc [D]
          refine ⟨by simp [rc.len], ?_, fun j a o ha ho => ?_, fun a xs ht hm => ?_⟩
          · rw [List.nodup_append]
            exact ⟨rc.nd, by simp, fun a h b h2 => by rw [List.mem_singleton.mp h2]; rintro rfl; exact hDc h⟩
          · by_cases hj : j < ρc.length
            · rw [List.getElem?_append_left hj] at ha
              rw [List.getElem?_append_left (by rw [← rc.len]; exact hj)] at ho
              exact (rc.obj j a o ha ho).mono pre (Ext.refl _) rfl
            · have hj' : j = ρc.length := by
                have := (List.getElem?_eq_some_iff.mp ha).1
                simp at this
                omega
              subst hj'
              rw [List.getElem?_append_right (Nat.le_refl _)] at ha
              rw [rc.len, List.getElem?_append_right (Nat.le_refl _)] at ho
              simp at ha ho
              subst ha ho
              exact ⟨_, hDv, _, rfl, hvs.mono pre (Ext.refl _)⟩
          · rcases List.mem_append.mp hm with z | z
            · exact rc.tup a xs ht z
            · rw [List.mem_singleton.mp z, hDv] at ht
              cases ht
      · have : compGo t dc de I (wipeM m (own.map (·.2))) 0 I.count acc Sc = .stuck := by
          unfold compGo; rw [if_neg ho]
        rw [this] at hp
        exact (hP hp).elim
    | succ r =>
      right
      obtain ⟨x, σ1, b, S2, bb, hx, hset, hcnd, htr, hrest⟩ := compGo_ok (P := P) hP hp
      obtain ⟨hgo, hy⟩ := j1 i x (by omega) hx
      refine ⟨hgo, fun Hn => ∃ r', r' < r + 1 ∧ ∃ ρc Sc acc vs, i + 1 + r' = I.count ∧ Le ρ1 H1 ρc Hn ∧ Rel G ρc Sc Hn ∧ D ∉ ρc ∧ Hn D = some (.lst vs) ∧ VRels G ρc Hn acc vs ∧ P (compGo t dc de I (wipeM m (own.map (·.2))) r' (i + 1) acc Sc), fun Hn h => h, fun v H2 hyld => ?_⟩
      obtain ⟨ly, ry, hv⟩ := hy v H2 hyld
      have lcy := lc.trans ly
      have sr2 : SRel G ρc H2 (wipeM m (own.map (·.2))) (wipe σ (own.map (·.2))) := ((sr.le R l1).le r1 lcy).wipe _
      refine gN_ok hK t hset hv sr2 fun σ' s' w' => ⟨by rw [w' _ hown]; exact wipe_wipe _ _, ?_⟩
      refine ⟨ρc, Sc, σ1, ry, s', ?_⟩
      rw [tst_eq hcnd, htr]
      intro ρ3 H3 cc l3 r3 hcc
      have hcc' : bb = cc := hcc
      subst hcc'
      have hD2 : H2 D = some (.lst vs) := ly.keep D _ hDv hDc
      have hD3 : H3 D = some (.lst vs) := l3.keep D _ hD2 hDc
      have hn3 : D ∉ ρ3 := l3.notin hDc hD2
      rcases hrest with ⟨rfl, y, S4, hel, hlim, hp2⟩ | ⟨rfl, hp2⟩
      · refine iteT ⟨ρ3, S2, σ1, r3, s'.le ry l3, ?_⟩
        rw [hel]
        intro ρ4 H4 w l4 r4 hw
        have hD4 : H4 D = some (.lst vs) := l4.keep D _ hD3 hn3
        have hn4 : D ∉ ρ4 := l4.notin hn3 hD3
        have hvs4 : VRels G ρ4 H4 acc vs := ((hvs.le rc ly).le ry l3).le r3 l4
        refine ⟨vs, hD4, by rw [← hvs.length]; exact lt_lim hlim, r, Nat.lt_succ_self _, ρ4, S4, acc ++ [y], vs ++ [w], by omega, ?_, ?_, hn4, upd_same, ?_, hp2⟩
        · exact Le.out ((lcy.trans l3).trans l4) hD hD4
        · exact (r4.out hn4 hD4).1
        · have e4 := (r4.out (u := vs ++ [w]) hn4 hD4).2
          exact (hvs4.mono (List.prefix_refl _) e4).append (VRels.one (hw.mono (List.prefix_refl _) e4))
      · exact iteF ⟨r, Nat.lt_succ_self _, ρ3, S2, acc, vs, by omega, lcy.trans l3, r3, hn3, hD3, (hvs.le rc ly).le ry l3, hp2⟩
theorem je_comp (hK : X.K = G.K) (hc : X.calm = true) (hN : X.N.Nodup) (hi : PI X tg iter (TI0 G dI W)) (ok : BlkOk X.N X.env.scope scope own) (hown : ∀ i ∈ ntNames t, i ∈ own.map (·.2))
    (hg : ∀ (s : Shared) (H : Hp) (C : Addr) (cl : List (Str × Addr)) (fp : List Addr), PG (X.blk s H scope (compEnvC scope cl C X.env) fp) tg (gN X.K t))
    (ht : ∀ (s : Shared) (H : Hp) (C : Addr) (cl : List (Str × Addr)) (fp : List Addr), PTs (X.blk s H scope (compEnvC scope cl C X.env) fp) ifs (Tb G dc WF))
    (he : ∀ (s : Shared) (H : Hp) (C : Addr) (cl : List (Str × Addr)) (fp : List Addr), PE (X.blk s H scope (compEnvC scope cl C X.env) fp) elt (T G de WF)) (hs : ∀ x, foldedSetIterable iter X.env x = pure x)
    (e : ∀ m S, d m S = (dI m S).bind fun I S1 => (compGo t dc de I (wipeM m (own.map (·.2))) I.count 0 [] S1).bind fun xs S2 => new S2 (.lst xs)) : PE X (.ListComp elt [⟨tg, iter, ifs, 0⟩] scope pos) (T G d W) :=
  (pe_lc hc hN hi ok hg ht he hs).imp fun σ H Q h => comp_lc hK hown e h
end
end FE
/-! FEi: arguments bound, defs called. -/
namespace FE
open PySem L2 PySem.Spec PyProof.Rows

theorem forIn_kw (f : Str × Value → List (Str × Value) × List (Str × Value) → Sem (ForInStep (List (Str × Value) × List (Str × Value)))) (ok : Str → Bool)
    (hf : ∀ x acc, ok x.1 = true → (acc.1.lookup x.1).isSome = false → f x acc = pure (ForInStep.yield (acc.1 ++ [(x.1, x.2)], acc.2))) :
    ∀ (kws : List (Str × Value)) (acc : List (Str × Value) × List (Str × Value)), (∀ x ∈ kws, ok x.1 = true) → (∀ x ∈ kws, acc.1.lookup x.1 = none) → (kws.map (·.1)).Nodup → forIn kws acc f = pure (acc.1 ++ kws, acc.2)
  | [], acc, _, _, _ => by simp
  | x :: kws, acc, h1, h2, h3 => by
    rw [List.forIn_cons, hf x acc (h1 x List.mem_cons_self) (by rw [h2 x List.mem_cons_self]; rfl), pure_bind]
    rw [List.map_cons, List.nodup_cons] at h3
    have e := forIn_kw f ok hf kws (acc.1 ++ [(x.1, x.2)], acc.2) (fun y hy => h1 y (List.mem_cons_of_mem _ hy)) (fun y hy => ?_) h3.2
    · simp only at e ⊢
      rw [e, List.append_assoc]
      rfl
    · show List.lookup y.1 (acc.1 ++ [(x.1, x.2)]) = none
      have hne : (y.1 == x.1) = false := by
        rw [beq_eq_false_iff_ne]
        intro q
        exact h3.1 (by rw [← q]; exact List.mem_map_of_mem hy)
      rw [List.lookup_append, h2 y (List.mem_cons_of_mem _ hy)]
      simp [List.lookup_cons, hne]
theorem wp_kwo {M : Model} {A : Around} {E : Value → Shared → Prop} {s : Shared} (dv : Str → Value) (f : Str → List (Str × Value) × List Str → Sem (ForInStep (List (Str × Value) × List Str))) :
    ∀ (ws : List Str) (acc : List (Str × Value) × List Str) (Q : List (Str × Value) × List Str → Shared → Prop),
      (∀ name ∈ ws, ∀ (acc : List (Str × Value) × List Str) (Q : ForInStep (List (Str × Value) × List Str) → Shared → Prop), ((acc.1.lookup name).isNone = false → Q (.yield (acc.1, acc.2)) s) → ((acc.1.lookup name).isNone = true → Q (.yield (acc.1 ++ [(name, dv name)], acc.2)) s) → wpAny M A (f name acc) Q E s) →
      ws.Nodup → Q (acc.1 ++ (ws.filter fun x => (acc.1.lookup x).isNone).map (fun x => (x, dv x)), acc.2) s → wpAny M A (forIn ws acc f) Q E s
  | [], acc, Q, _, _, q => by
    rw [List.forIn_nil]
    exact wpAny_pure (by simpa using q)
  | x :: ws, acc, Q, hf, nd, q => by
    rw [List.forIn_cons]
    rw [List.nodup_cons] at nd
    refine wpAny_bind (hf x List.mem_cons_self acc _ (fun h => ?_) fun h => ?_)
    · refine wp_kwo dv f ws _ Q (fun y hy => hf y (List.mem_cons_of_mem _ hy)) nd.2 ?_
      rw [List.filter_cons, if_neg (by rw [h]; exact Bool.false_ne_true)] at q
      exact q
    · refine wp_kwo dv f ws _ Q (fun y hy => hf y (List.mem_cons_of_mem _ hy)) nd.2 ?_
      rw [List.filter_cons, if_pos h] at q
      have e : (ws.filter fun y => ((acc.1 ++ [(x, dv x)]).lookup y).isNone) = ws.filter fun y => (acc.1.lookup y).isNone := by
        refine List.filter_congr fun y hy => ?_
        have hne : (y == x) = false := by
          rw [beq_eq_false_iff_ne]
          rintro rfl
          exact nd.1 hy
        rw [List.lookup_append]
        cases List.lookup y acc.1 <;> simp [List.lookup_cons, hne]
      show Q (acc.1 ++ [(x, dv x)] ++ (ws.filter fun y => ((acc.1 ++ [(x, dv x)]).lookup y).isNone).map (fun x => (x, dv x)), acc.2) s
      rw [e, List.append_assoc]
      exact q
theorem bind_wp {K : PySem.W.Frag} {M : Model} {A : Around} {E : Value → Shared → Prop} {s : Shared} {fd : FuncData} {args : Args} {Q : List (Str × Value) → Shared → Prop} (hp : fd.params.posonlyargs = []) (hv : fd.params.vararg = none) (hk : fd.params.kwarg = none) (hd : fd.defaults = .none)
    {ps ws : List Str} (ha : fd.params.args.map (·.arg) = ps) (hw : fd.params.kwonlyargs.map (·.arg) = ws) (h1 : ∀ x ∈ args.kw, (ps.contains x.1 || ws.contains x.1) = true) (h2 : ∀ x ∈ args.kw, (ps.zip args.pos).lookup x.1 = none) (h3 : (args.kw.map (·.1)).Nodup) (hl : args.pos.length ≤ ps.length)
    (hm : ∀ x ∈ ps, ((ps.zip args.pos ++ args.kw).lookup x).isSome = true) (X : K.In s.heap) (dv : Str → Value) (hdv : ∀ x ∈ ws, ∃ D, fd.kwdefaults = .ref D ∧ PySem.W.nsIn K D x = some (some (dv x))) (nd : ws.Nodup)
    (q : Q ((ps ++ ws).filterMap fun n => ((ps.zip args.pos ++ args.kw ++ (ws.filter fun x => ((ps.zip args.pos ++ args.kw).lookup x).isNone).map fun x => (x, dv x)).lookup n).map fun v => (n, v)) s) : wpAny M A (bindArgs fd args) Q E s := by
  unfold bindArgs
  simp only [hp, hv, hk, hd, seqItems?, List.map_nil, List.nil_append, ha, hw]
  rw [forIn_kw _ (fun x => ps.contains x || ws.contains x) (fun x acc e1 e2 => by rw [if_pos e1, if_neg (by rw [e2]; exact Bool.false_ne_true)]) args.kw _ h1 h2 h3]
  refine wpAny_bind (wpAny_pure ?_)
  have hl' : (decide (args.pos.length > ps.length) && (none : Option Arg).isNone) = false := by simp; omega
  have hmiss : (List.filter (fun n => (List.lookup n (ps.zip args.pos ++ args.kw)).isNone) ps) = [] := by
    rw [List.filter_eq_nil_iff]
    intro x hx
    have := hm x hx
    cases e : List.lookup x (ps.zip args.pos ++ args.kw) with
    | none => rw [e] at this; cases this
    | some v => simp
  refine wpAny_bind (show wpAny M A (pure none) _ E s from wpAny_pure ?_)
  rw [hl', if_neg Bool.false_ne_true]
  simp only [Option.getD_none, List.length_nil, Nat.zero_sub, List.drop_nil, Nat.sub_zero, List.take_length, List.drop_length, List.zip_nil_right, List.forIn_nil, pure_bind, hmiss, List.isEmpty_nil, Bool.not_true]
  rw [if_neg Bool.false_ne_true]
  refine wpAny_bind (wp_kwo dv _ ws _ _ (fun name hn acc Q' a b => ?_) nd ?_)
  · cases e : (List.lookup name acc.1).isNone with
    | false =>
      rw [if_neg Bool.false_ne_true]
      exact wpAny_pure (a e)
    | true =>
      rw [if_pos rfl]
      obtain ⟨D, e1, e2⟩ := hdv name hn
      rw [e1]
      exact wpAny_bind ((PySem.W.looks_nsIn X e2).here (wpAny_pure (b e)))
  · simp only [List.isEmpty_nil, Bool.not_true]
    rw [if_neg Bool.false_ne_true]
    exact wpAny_pure q
end FE

namespace FE
open PySem L2 PySem.Spec PyProof.Rows
/-- what of a def's record is known: dv the keyword-only defaults -/
structure FdOk (G : GI) (K : PySem.W.Frag) (d : MDef) (fd : FuncData) (dv : Nat → Value) : Prop where
  po : fd.params.posonlyargs = []
  va : fd.params.vararg = none
  kw : fd.params.kwarg = none
  df : fd.defaults = .none
  ar : fd.params.args.map (·.arg) = d.pos.map G.nm
  ko : fd.params.kwonlyargs.map (·.arg) = d.kwo.map fun q => G.nm q.1
  kd : ∀ q ∈ d.kwo, ∃ D, fd.kwdefaults = .ref D ∧ PySem.W.nsIn K D (G.nm q.1) = some (some (dv q.1))
  nd : ((d.pos ++ d.kwo.map (·.1)).map G.nm).Nodup
theorem nodup_inj {α β : Type} {f : α → β} : ∀ {l : List α}, (l.map f).Nodup → ∀ a ∈ l, ∀ b ∈ l, f a = f b → a = b
  | [], _, a, h, _, _, _ => by cases h
  | x :: l, h, a, ha, b, hb, e => by
    rw [List.map_cons, List.nodup_cons] at h
    rcases List.mem_cons.mp ha with h1 | h1
    · rcases List.mem_cons.mp hb with h2 | h2
      · rw [h1, h2]
      · exact (h.1 (by rw [← h1, e]; exact List.mem_map_of_mem h2)).elim
    · rcases List.mem_cons.mp hb with h2 | h2
      · exact (h.1 (by rw [← h2, ← e]; exact List.mem_map_of_mem h1)).elim
      · exact nodup_inj h.2 a h1 b h2 e
theorem nodup_of_map {α β : Type} {f : α → β} : ∀ {l : List α}, (l.map f).Nodup → l.Nodup
  | [], _ => List.nodup_nil
  | x :: l, h => by
    rw [List.map_cons, List.nodup_cons] at h
    exact List.nodup_cons.mpr ⟨fun m => h.1 (List.mem_map_of_mem m), nodup_of_map h.2⟩
section
variable {α : Type} {nm : Nat → Str}
theorem look_map : ∀ {ks : List (Nat × α)} {p : Nat}, (∀ k ∈ ks.map (·.1), nm k = nm p → k = p) → (ks.map fun q => (nm q.1, q.2)).lookup (nm p) = ks.lookup p
  | [], p, _ => rfl
  | (k, v) :: ks, p, h => by
    have ih := look_map (ks := ks) (p := p) fun k hk => h k (List.mem_cons_of_mem _ hk)
    rw [List.map_cons, List.lookup_cons, List.lookup_cons]
    by_cases e : k = p
    · subst e; simp
    · have h1 : (nm p == nm k) = false := by
        rw [beq_eq_false_iff_ne]
        exact fun q => e (h k (by simp) q.symm)
      have h2 : (p == k) = false := by
        rw [beq_eq_false_iff_ne]
        exact fun q => e q.symm
      rw [h1, h2, ih]
theorem zip_look : ∀ {ps : List Str} {us : List α} {x : Str}, x ∉ ps.take us.length → (ps.zip us).lookup x = none
  | [], _, _, _ => rfl
  | _ :: _, [], _, _ => rfl
  | p :: ps, u :: us, x, h => by
    rw [List.length_cons, List.take_succ_cons, List.mem_cons, not_or] at h
    rw [List.zip_cons_cons, List.lookup_cons, show (x == p) = false from beq_eq_false_iff_ne.mpr h.1]
    exact zip_look h.2
theorem look_mem : ∀ {l : List (Str × α)} {x : Str}, x ∈ l.map (·.1) → (l.lookup x).isSome = true
  | [], x, h => by cases h
  | (k, v) :: l, x, h => by
    rw [List.lookup_cons]
    cases e : x == k with
    | true => rfl
    | false =>
      rw [List.map_cons, List.mem_cons] at h
      rcases h with h | h
      · rw [beq_eq_false_iff_ne] at e; exact (e h).elim
      · exact look_mem h
theorem fm_zip {l2 : List (Str × α)} : ∀ {ps : List Str} {us : List α}, ps.Nodup → us.length = ps.length → ps.filterMap (fun n => ((ps.zip us ++ l2).lookup n).map fun v => (n, v)) = ps.zip us := by
  intro ps us
  suffices ∀ (l1 : List (Str × α)) (ps : List Str) (us : List α), ps.Nodup → us.length = ps.length → (∀ x ∈ ps, l1.lookup x = none) → ps.filterMap (fun n => ((l1 ++ ps.zip us ++ l2).lookup n).map fun v => (n, v)) = ps.zip us from fun h1 h2 => by
    simpa using this [] ps us h1 h2 (fun _ _ => rfl)
  clear ps us
  intro l1 ps
  induction ps generalizing l1 with
  | nil => intro us _ _ _; rfl
  | cons p ps ih =>
    intro us nd hl hn
    cases us with
    | nil => cases hl
    | cons u us =>
      rw [List.nodup_cons] at nd
      have e1 : (l1 ++ (p :: ps).zip (u :: us) ++ l2).lookup p = some u := by
        rw [List.append_assoc, List.lookup_append, hn p List.mem_cons_self]
        simp [List.lookup_cons]
      rw [List.filterMap_cons, e1]
      simp only [Option.map_some]
      rw [List.zip_cons_cons]
      congr 1
      have := ih (l1 ++ [(p, u)]) us nd.2 (by simpa using hl) fun x hx => by
        rw [List.lookup_append, hn x (List.mem_cons_of_mem _ hx)]
        have : (x == p) = false := beq_eq_false_iff_ne.mpr fun q => nd.1 (by rw [← q]; exact hx)
        simp [List.lookup_cons, this]
      refine Eq.trans ?_ this
      congr 1
      funext n
      simp
theorem zip_take : ∀ (ps : List Str) (us : List α), ps.zip us = (ps.take us.length).zip us
  | [], us => by simp
  | p :: ps, [] => by simp
  | p :: ps, u :: us => by simp [zip_take ps us]
theorem fm_ids {nm : Nat → Str} {l : List (Str × α)} (g : Nat → α) : ∀ (ps : List Nat), (∀ x ∈ ps, l.lookup (nm x) = some (g x)) → (ps.map nm).filterMap (fun n => (l.lookup n).map fun v => (n, v)) = (ps.map nm).zip (ps.map g)
  | [], _ => rfl
  | p :: ps, h => by
    rw [List.map_cons, List.filterMap_cons, h p List.mem_cons_self]
    simp only [Option.map_some]
    rw [List.map_cons, List.zip_cons_cons, fm_ids g ps fun x hx => h x (List.mem_cons_of_mem _ hx)]
/-- a name's values one by one -/
theorem fm_val {l : List (Str × α)} (g : Str → α) : ∀ (ps : List Str), (∀ x ∈ ps, l.lookup x = some (g x)) → ps.filterMap (fun n => (l.lookup n).map fun v => (n, v)) = ps.zip (ps.map g)
  | [], _ => rfl
  | p :: ps, h => by
    rw [List.filterMap_cons, h p List.mem_cons_self]
    simp only [Option.map_some]
    rw [List.map_cons, List.zip_cons_cons, fm_val g ps fun x hx => h x (List.mem_cons_of_mem _ hx)]
theorem mapO_len {α β : Type} {f : α → Option β} : ∀ {l : List α} {r : List β}, mapO f l = some r → r.length = l.length ∧ ∀ (i : Nat) (x : α), l[i]? = some x → ∃ y, f x = some y ∧ r[i]? = some y
  | [], r, h => by simp [mapO] at h; subst h; exact ⟨rfl, fun i x e => by simp at e⟩
  | x :: l, r, h => by
    simp only [mapO] at h
    split at h
    · cases h
    · rename_i y e1
      split at h
      · cases h
      · rename_i ys e2
        cases h
        obtain ⟨h1, h2⟩ := mapO_len e2
        refine ⟨by simp [h1], fun i z e => ?_⟩
        cases i with
        | zero => simp at e; subst e; exact ⟨y, e1, rfl⟩
        | succ i =>
          obtain ⟨w, e3, e4⟩ := h2 i z (by simpa using e)
          exact ⟨w, e3, by simpa using e4⟩
end
theorem mapO_map {α β : Type} {f : α → Option β} {g : α → β} : ∀ {l : List α} {r : List β}, mapO f l = some r → (∀ x y, f x = some y → g x = y) → r = l.map g
  | [], r, h, _ => by simp [mapO] at h; subst h; rfl
  | x :: l, r, h, hg => by
    simp only [mapO] at h
    split at h
    · cases h
    · rename_i y e1
      split at h
      · cases h
      · rename_i ys e2
        cases h
        rw [List.map_cons, hg x y e1, mapO_map e2 hg]
theorem mapO_some {α β : Type} {f : α → Option β} : ∀ {l : List α} {r : List β}, mapO f l = some r → ∀ x ∈ l, ∃ y, f x = some y
  | [], r, h, x, hx => by cases hx
  | z :: l, r, h, x, hx => by
    simp only [mapO] at h
    split at h
    · cases h
    · rename_i y e1
      split at h
      · cases h
      · rename_i ys e2
        rcases List.mem_cons.mp hx with rfl | hx
        · exact ⟨y, e1⟩
        · exact mapO_some e2 x hx
def dvF (nm : Nat → Str) (kwo : List (Nat × MV)) (dv : Nat → Value) (x : Str) : Value := match kwo.find? fun q => nm q.1 == x with
  | some q => dv q.1
  | none => .none
theorem bind_to {G : GI} {K : PySem.W.Frag} {d : MDef} {fd : FuncData} {dv : Nat → Value} {s : Shared} (F : FdOk G K d fd dv) (X : K.In s.heap) {us : List Value} {ks : List (Nat × Value)} {full : List Value} (e : bindG d.pos (d.kwo.map fun q => (q.1, dv q.1)) us ks = some full) :
    BindsTo s fd ⟨us, ks.map fun q => (G.nm q.1, q.2)⟩ (((d.pos ++ d.kwo.map (·.1)).map G.nm).zip full) := by
  intro M A E Q q
  unfold bindG at e
  split at e
  · rename_i c
    obtain ⟨hl, hin, hnd⟩ := c
    split at e
    · rename_i vs hvs
      cases e
      have inj := nodup_inj F.nd
      have kd : (d.kwo.map fun q : Nat × MV => (q.1, dv q.1)).map (·.1) = d.kwo.map (·.1) := by rw [List.map_map]; rfl
      rw [kd] at hin
      have hmem : ∀ k ∈ ks.map (·.1), k ∈ d.pos ++ d.kwo.map (·.1) := fun k hk => by
        rcases hin k hk with h | h
        · exact List.mem_append_left _ (List.mem_of_mem_drop h)
        · exact List.mem_append_right _ h
      have hlook : ∀ p ∈ d.pos ++ d.kwo.map (·.1), (ks.map fun q => (G.nm q.1, q.2)).lookup (G.nm p) = ks.lookup p := fun p hp => look_map fun k hk e => inj k (hmem k hk) p hp e
      have hnd2 : (d.pos.map G.nm).Nodup ∧ (d.kwo.map fun q => G.nm q.1).Nodup ∧ ∀ x ∈ d.pos.map G.nm, x ∉ d.kwo.map fun q => G.nm q.1 := by
        have h := F.nd
        rw [List.map_append, List.nodup_append, List.map_map] at h
        exact ⟨h.1, h.2.1, fun x hx hx2 => h.2.2 x hx x hx2 rfl⟩
      obtain ⟨n1, n2, n3⟩ := hnd2
      have hl' : us.length ≤ (d.pos.map G.nm).length := by rw [List.length_map]; exact hl
      -- the split of the positional names
      have hsplit : d.pos.map G.nm = (d.pos.take us.length).map G.nm ++ (d.pos.drop us.length).map G.nm := by rw [← List.map_append, List.take_append_drop]
      have n1' := n1
      rw [hsplit, List.nodup_append] at n1'
      have hzip : (d.pos.map G.nm).zip us = ((d.pos.take us.length).map G.nm).zip us := by
        have e0 : ((d.pos.map G.nm).take us.length) = (d.pos.take us.length).map G.nm := by rw [List.map_take]
        rw [← e0]
        exact zip_take _ _
      have hz0 : ∀ x, x ∉ (d.pos.take us.length).map G.nm → ((d.pos.map G.nm).zip us).lookup x = none := fun x hx => zip_look (by rw [← List.map_take]; exact hx)
      have htk : us.length = ((d.pos.take us.length).map G.nm).length := by
        rw [List.length_map, List.length_take]; omega
      refine bind_wp (K := K) F.po F.va F.kw F.df F.ar F.ko ?h1 ?h2 ?h3 hl' ?hm X (dvF G.nm d.kwo dv) ?hdv n2 ?q
      case h1 =>
        intro x hx
        obtain ⟨k, hk, rfl⟩ := List.mem_map.mp hx
        have := hmem k.1 (List.mem_map_of_mem hk)
        rw [Bool.or_eq_true, List.contains_iff_mem, List.contains_iff_mem]
        rcases List.mem_append.mp this with h | h
        · exact .inl (List.mem_map_of_mem h)
        · obtain ⟨q, hq, e⟩ := List.mem_map.mp h
          exact .inr (by simp only; rw [← e]; exact List.mem_map_of_mem hq)
      case h2 =>
        intro x hx
        obtain ⟨k, hk, rfl⟩ := List.mem_map.mp hx
        refine hz0 _ fun h => ?_
        obtain ⟨p, hp, e⟩ := List.mem_map.mp h
        have hk' := hin k.1 (List.mem_map_of_mem hk)
        have hpm : p ∈ d.pos ++ d.kwo.map (·.1) := List.mem_append_left _ (List.mem_of_mem_take hp)
        have := inj p hpm k.1 (hmem k.1 (List.mem_map_of_mem hk)) e
        subst this
        rcases hk' with h' | h'
        · exact n1'.2.2 _ (List.mem_map_of_mem hp) _ (List.mem_map_of_mem h') rfl
        · obtain ⟨q, hq, e⟩ := List.mem_map.mp h'
          exact n3 _ (List.mem_map_of_mem (List.mem_of_mem_take hp)) (by rw [← e]; exact List.mem_map_of_mem hq)
      case h3 =>
        show ((ks.map fun q => (G.nm q.1, q.2)).map (·.1)).Nodup
        rw [List.map_map]
        show (ks.map ((fun k => G.nm k) ∘ (fun q => q.1))).Nodup
        rw [← List.map_map]
        have : ∀ l : List Nat, l.Nodup → (∀ k ∈ l, k ∈ d.pos ++ d.kwo.map (·.1)) → (l.map fun k => G.nm k).Nodup := by
          intro l
          induction l with
          | nil => intro _ _; simp
          | cons a l ih =>
            intro h1 h2
            rw [List.nodup_cons] at h1
            rw [List.map_cons, List.nodup_cons]
            refine ⟨fun m => ?_, ih h1.2 fun k hk => h2 k (List.mem_cons_of_mem _ hk)⟩
            obtain ⟨b, hb, e⟩ := List.mem_map.mp m
            have := inj b (h2 b (List.mem_cons_of_mem _ hb)) a (h2 a List.mem_cons_self) e
            subst this
            exact h1.1 hb
        exact this _ hnd hmem
      case hm =>
        intro x hx
        rw [hsplit] at hx
        rcases List.mem_append.mp hx with h | h
        · refine look_mem ?_
          rw [List.map_append, hzip]
          refine List.mem_append_left _ ?_
          rw [List.map_fst_zip (by rw [← htk]; exact Nat.le_refl _)]
          exact h
        · obtain ⟨p, hp, rfl⟩ := List.mem_map.mp h
          obtain ⟨y, hy⟩ := mapO_some hvs p hp
          rw [List.lookup_append, hz0 _ (fun h' => n1'.2.2 _ h' _ h rfl), Option.none_or, hlook p (List.mem_append_left _ (List.mem_of_mem_drop hp)), hy]
          rfl
      case hdv =>
        intro x hx
        obtain ⟨q, hq, rfl⟩ := List.mem_map.mp hx
        obtain ⟨D, e1, e2⟩ := F.kd q hq
        refine ⟨D, e1, ?_⟩
        rw [e2]
        unfold dvF
        cases e3 : d.kwo.find? fun q' => G.nm q'.1 == G.nm q.1 with
        | none =>
          have := List.find?_eq_none.mp e3 q hq
          simp at this
        | some q' =>
          have h1 := List.find?_some e3
          have h2 := List.mem_of_find?_eq_some e3
          have := inj q'.1 (List.mem_append_right _ (List.mem_map_of_mem h2)) q.1 (List.mem_append_right _ (List.mem_map_of_mem hq)) (beq_iff_eq.mp h1)
          simp only [this]
      case q =>
        refine cast ?_ q
        congr 1
        have hdvf' : ∀ q ∈ d.kwo, dvF G.nm d.kwo dv (G.nm q.1) = dv q.1 := fun q hq => by
          unfold dvF
          cases e3 : d.kwo.find? fun q' => G.nm q'.1 == G.nm q.1 with
          | none =>
            have := List.find?_eq_none.mp e3 q hq
            simp at this
          | some q' =>
            have h1 := List.find?_some e3
            have h2 := List.mem_of_find?_eq_some e3
            have := inj q'.1 (List.mem_append_right _ (List.mem_map_of_mem h2)) q.1 (List.mem_append_right _ (List.mem_map_of_mem hq)) (beq_iff_eq.mp h1)
            simp only [e3, this]
        symm
        have hws : d.kwo.map (fun q => G.nm q.1) = (d.kwo.map (·.1)).map G.nm := by rw [List.map_map]; rfl
        show ((d.pos.map G.nm ++ d.kwo.map fun q => G.nm q.1).filterMap fun n => (((d.pos.map G.nm).zip us ++ (ks.map fun q => (G.nm q.1, q.2)) ++ ((d.kwo.map fun q => G.nm q.1).filter fun x => (((d.pos.map G.nm).zip us ++ ks.map fun q => (G.nm q.1, q.2)).lookup x).isNone).map fun x => (x, dvF G.nm d.kwo dv x)).lookup n).map fun v => (n, v)) = _
        generalize hex : ((d.kwo.map fun q => G.nm q.1).filter fun x => (((d.pos.map G.nm).zip us ++ ks.map fun q => (G.nm q.1, q.2)).lookup x).isNone).map (fun x => (x, dvF G.nm d.kwo dv x)) = ex
        rw [List.filterMap_append, hsplit, List.filterMap_append, ← hsplit]
        have p1 : List.filterMap (fun n => (((d.pos.map G.nm).zip us ++ (ks.map fun q => (G.nm q.1, q.2)) ++ ex).lookup n).map fun v => (n, v)) ((d.pos.take us.length).map G.nm) = ((d.pos.take us.length).map G.nm).zip us := by
          rw [hzip, List.append_assoc]
          exact fm_zip n1'.1 htk
        have p2 : List.filterMap (fun n => (((d.pos.map G.nm).zip us ++ (ks.map fun q => (G.nm q.1, q.2)) ++ ex).lookup n).map fun v => (n, v)) ((d.pos.drop us.length).map G.nm) = ((d.pos.drop us.length).map G.nm).zip vs := by
          have hv : vs = (d.pos.drop us.length).map fun p => (ks.lookup p).getD .none := mapO_map hvs fun x y e => by rw [e]; rfl
          rw [hv]
          refine fm_ids _ _ fun p hp => ?_
          obtain ⟨y, hy⟩ := mapO_some hvs p hp
          rw [List.append_assoc, List.lookup_append, hz0 _ (fun h' => n1'.2.2 _ h' _ (List.mem_map_of_mem hp) rfl), Option.none_or, List.lookup_append, hlook p (List.mem_append_left _ (List.mem_of_mem_drop hp)), hy]
          rfl
        have p3 : List.filterMap (fun n => (((d.pos.map G.nm).zip us ++ (ks.map fun q => (G.nm q.1, q.2)) ++ ex).lookup n).map fun v => (n, v)) (d.kwo.map fun q => G.nm q.1) = (d.kwo.map fun q => G.nm q.1).zip ((d.kwo.map fun q : Nat × MV => (q.1, dv q.1)).map fun q => (ks.lookup q.1).getD q.2) := by
          have hv : ((d.kwo.map fun q : Nat × MV => (q.1, dv q.1)).map fun q => (ks.lookup q.1).getD q.2) = (d.kwo.map (·.1)).map fun p => (ks.lookup p).getD (dv p) := by rw [List.map_map, List.map_map]; rfl
          rw [hv, hws]
          refine fm_ids _ _ fun p hp => ?_
          have hp' := List.mem_append_right d.pos hp
          obtain ⟨q, hq, rfl⟩ := List.mem_map.mp hp
          have hnp : ((d.pos.map G.nm).zip us).lookup (G.nm q.1) = none := hz0 _ fun h' => by
            obtain ⟨a, ha, e⟩ := List.mem_map.mp h'
            exact n3 _ (List.mem_map_of_mem (List.mem_of_mem_take ha)) (by rw [e]; exact List.mem_map_of_mem hq)
          rw [List.append_assoc, List.lookup_append, hnp, Option.none_or, List.lookup_append, hlook q.1 hp']
          cases ek : ks.lookup q.1 with
          | some v => rfl
          | none =>
            rw [Option.none_or, ← hex]
            have hin2 : G.nm q.1 ∈ (d.kwo.map fun q => G.nm q.1).filter fun x => (((d.pos.map G.nm).zip us ++ ks.map fun q => (G.nm q.1, q.2)).lookup x).isNone := by
              rw [List.mem_filter]
              refine ⟨List.mem_map_of_mem hq, ?_⟩
              rw [List.lookup_append, hnp, Option.none_or, hlook q.1 hp', ek]
              rfl
            have gen : ∀ (l : List Str), G.nm q.1 ∈ l → (l.map fun x => (x, dvF G.nm d.kwo dv x)).lookup (G.nm q.1) = some (dvF G.nm d.kwo dv (G.nm q.1)) := by
              intro l
              induction l with
              | nil => intro h; cases h
              | cons a l ih =>
                intro h
                rw [List.map_cons, List.lookup_cons]
                cases e : G.nm q.1 == a with
                | true => rw [← beq_iff_eq.mp e]
                | false =>
                  rcases List.mem_cons.mp h with h | h
                  · rw [beq_eq_false_iff_ne] at e; exact (e h).elim
                  · exact ih h
            rw [gen _ hin2, hdvf' q hq]
            rfl
        rw [p1, p2, p3, List.map_append, hsplit, hws]
        have lv : vs.length = ((d.pos.drop us.length).map G.nm).length := by rw [List.length_map]; exact (mapO_len hvs).1
        rw [List.zip_append (by rw [List.length_append, List.length_append, ← htk, lv]), List.zip_append htk.symm]
    · cases e
  · cases e
end FE
/-! FEj: calls of defs and classes. -/
namespace FE
open PySem L2 PySem.Spec PyProof.Rows

/-- a wish of exceptions at a call's end -/
def exE (G : GI) (E : XK) (e : Exn) (ρ : List Addr) (H : Hp) : Prop := E (.ref (G.ad e.cls)) (e.d.bind fun i => ρ[i]?) H
/-- a def's promise: what the evaluator says of it -/
def spF (G : GI) (f : List MV → Store → Out MV) : Sp := fun vs H Q E => ∃ ρ S as, Rel G ρ S H ∧ VRels G ρ H as vs ∧ K1 G ρ H (f as S) (RV G) Q (exE G E)
/-- the def at f keeps a promise, where no object is being shown -/
def FnC (P : Program) (w : World) (K : PySem.W.Frag) (mg : Str → Option Value) (base : Heap) (k : Nat) (f : Addr) (fd : FuncData) (ps : List Str) (sp : Sp) : Prop :=
  ∀ (A : Around) (outer : List Env) (s : Shared) (H : Hp) (args : Args) (us : List Value) (vs : List V) (Q : VK) (E : XK), Room k A → A.guards = some [] → Env0 P w K mg base A outer s H → BindsTo s fd args (ps.zip us) → Vals vs us → vs.length = ps.length → sp vs H Q E →
    codeAny (model P w) A (.call (.ref f) args) (CR (L2.CX P w) outer P w H s Q E) s
/-- what a def's code reaches, told as a call's end -/
theorem ends_call {P : Program} {w : World} {K : PySem.W.Frag} {mg : Str → Option Value} {base : Heap} {N : List Str} {qual : Str} {scope : Scope} {f : Addr} {cd : Value} {A : Around} {outer : List Env} {s s2 : Shared} {H : Hp} {Q : VK} {E : XK} {fl : Flow}
    (h : SP (cxOf (L2.CX P w) P w K mg base N qual scope f cd A outer s H E) [] { nx := fun _ H' => Q .non H', rt := Q } fl s2) : match fl with
    | .ret u => CE outer P w H s Q u s2
    | .next => CE outer P w H s Q .none s2
    | _ => False := by
  cases fl with
  | ret u => exact let ⟨v, _, H2, J, rv, q⟩ := h; ⟨v, H2, J.os, J.bare, J.base, J.hok, rv, q⟩
  | next => exact let ⟨_, H2, J, q⟩ := h; ⟨.non, H2, J.os, J.bare, J.base, J.hok, rfl, q⟩
  | brk => exact h.elim fun _ h => h.elim fun _ h => h.2
  | cont => exact h.elim fun _ h => h.elim fun _ h => h.2
/-- a def's promise, from its body's reading; the guards are told to the body -/
theorem fnC_of {P : Program} {w : World} {K : PySem.W.Frag} {mg : Str → Option Value} {base : Heap} {k : Nat} {f : Addr} {name qual : Str} {params : Arguments} {body : List Stmt} {scope : Scope}
    {dV kV doc pm cdv ct oc : Value} {an od : Option Addr} {osl : Array (Option Value)} {N ps : List Str} {sp : Sp}
    (lk : K.lookup f = some ⟨oc, od, .func (PySem.W.fnOf name qual params body scope dV kV doc pm an cdv ct), osl⟩)
    (hcd : PySem.W.codeIn K cdv qual = true) (S : FnScope N ps scope)
    (hbody : ∀ (A : Around) (outer : List Env) (s : Shared) (H : Hp) (vs : List V) (Q : VK) (E : XK), Room k (A.deeper (envOfC qual scope s.heap.objs.size f cdv)) → A.guards = some [] → vs.length = ps.length → sp vs H Q E →
      ∃ t, PSs (cxOf (L2.CX P w) P w K mg base N qual scope f cdv A outer s H E) body t ∧ t { nx := fun _ H' => Q .non H', rt := Q } (start N vs) H) :
    FnC P w K mg base (k + 1) f (PySem.W.fnOf name qual params body scope dV kV doc pm an cdv ct) ps sp := by
  intro A outer s H args us vs Q E room gd env bt vals len wish
  obtain ⟨t, pt, ht⟩ := hbody A outer s H vs Q E (room.deeper _) gd len wish
  have up : ∀ b o, base.get? b = some o → s.heap.get? b = some o := fun b o e => (env.bs b o e).1
  have inK := env.mod.kin.keeps up
  have known : ∀ y ∈ ps.zip us, scope.names.lookup y.1 = some .local ∨ (scope.names.lookup y.1 = some .cell ∧ ((cellsFrom (s.heap.objs.size + 1) scope.names []).lookup y.1).isSome = true) := by
    intro y hy
    exact (S.par y.1 (List.of_mem_zip (a := y.1) (b := y.2) hy).1).imp id fun c => ⟨c, PySem.W.cellsFrom_some _ _ _ (.inl c)⟩
  refine codeAny_call_function room.depth (inK _ _ lk) rfl S.co S.gen rfl (PySem.W.codeRec_of inK hcd) (bt _ _ _ _ (wpAny_newFunctionEnv_cells S.kind known ?_))
  rintro _ rfl s1 made
  refine ⟨(env.mod.nolimit.keeps up).keeps made.toInCall.keep, codeAny_func (wpAny_mono (pt.run [] s1 (start N vs) H _ (inv_start S room.hd env len vals made) ht) (fun fl s2 e => ?_) fun _ _ e => e)⟩
  have z := ends_call e
  cases fl <;> first | exact z | exact z.elim

/-- a def with all its parameters' values -/
noncomputable def full (Γ : Prog) : Nat → Nat → List MV → Store → Out MV
  | 0, _, _, _ => .stuck
  | n + 1, g, vs, S => match Γ.fn g with
    | some d => runD Γ (calls Γ n) d vs S
    | none => .stuck
def parNames (G : GI) (d : MDef) : List Str := (d.pos ++ d.kwo.map (·.1)).map G.nm
/-- what of a def is known -/
structure DefAt (G : GI) (K : PySem.W.Frag) (d : MDef) (f : Addr) (fd : FuncData) (dv : Nat → Value) : Prop where
  fd : FdOk G K d fd dv
  dv : ∀ q ∈ d.kwo, ∃ x, RelV x (dv q.1) ∧ ∀ ρ H, VRel G ρ H q.2 x
  kp : PySem.W.keepIn K (.ref f) = true
/-- every def of the program keeps what the evaluator says of it, at level n -/
def CallsAt (G : GI) (Γ : Prog) (P : Program) (w : World) (K : PySem.W.Frag) (mg : Str → Option Value) (base : Heap) (n : Nat) : Prop :=
  ∀ g d, Γ.fn g = some d → ∃ fd dv, DefAt G K d (G.ad g) fd dv ∧ FnC P w K mg base n (G.ad g) fd (parNames G d) (spF G (full Γ n g))
/-- a class -/
def ClsAt (G : GI) (Γ : Prog) (K : PySem.W.Frag) : Prop := ∀ g c, Γ.fn g = none → Γ.cls g = some c → Mk K (G.ad g) (G.ad c.init) ∧ ∃ d, Γ.fn c.init = some d

/-! ### arguments by value -/
section
variable {G : GI} {ρ : List Addr} {H : Hp}
theorem vrels_take : ∀ {xs : List MV} {vs : List V} (n : Nat), VRels G ρ H xs vs → VRels G ρ H (xs.take n) (vs.take n)
  | _, _, 0, _ => by simp [VRels]
  | [], _, n + 1, h => by cases h; simp [VRels]
  | x :: xs, _, n + 1, h => by
    obtain ⟨v, r, rfl, hv, t⟩ := h
    exact ⟨v, r.take n, rfl, hv, vrels_take n t⟩
/-- keywords' values -/
theorem lookK {α β : Type} {R : α → β → Prop} : ∀ {ks : List (Nat × α)} {zs : List (Nat × β)} {p : Nat}, Paired (fun a b => a.1 = b.1 ∧ R a.2 b.2) ks zs → (ks.lookup p = none ∧ zs.lookup p = none) ∨ ∃ a b, ks.lookup p = some a ∧ zs.lookup p = some b ∧ R a b
  | [], [], p, _ => .inl ⟨rfl, rfl⟩
  | (k, a) :: ks, (j, b) :: zs, p, h => by
    cases h with
    | cons h t =>
      obtain ⟨h1, h2⟩ := h
      have h1' : k = j := h1
      subst h1'
      rw [List.lookup_cons, List.lookup_cons]
      cases p == k with
      | true => exact .inr ⟨a, b, rfl, rfl, h2⟩
      | false => exact lookK t
theorem keysK {α β : Type} {R : α → β → Prop} : ∀ {ks : List (Nat × α)} {zs : List (Nat × β)}, Paired (fun a b => a.1 = b.1 ∧ R a.2 b.2) ks zs → ks.map (·.1) = zs.map (·.1)
  | [], [], _ => rfl
  | (k, a) :: ks, (j, b) :: zs, h => by
    cases h with
    | cons h t => rw [List.map_cons, List.map_cons, keysK t, show k = j from h.1]
theorem pairedMap {α β γ : Type} {R : β → γ → Prop} {f : α → β} {g : α → γ} : ∀ (l : List α), (∀ x ∈ l, R (f x) (g x)) → Paired R (l.map f) (l.map g)
  | [], _ => .nil
  | x :: l, h => .cons (h x List.mem_cons_self) (pairedMap l fun y hy => h y (List.mem_cons_of_mem _ hy))
theorem pairedApp {α β : Type} {R : α → β → Prop} : ∀ {a c : List α} {b d : List β}, Paired R a b → Paired R c d → Paired R (a ++ c) (b ++ d)
  | _, _, _, _, .nil, h => h
  | _, _, _, _, .cons h t, h2 => .cons h (pairedApp t h2)
/-- binding is alike for alike arguments -/
theorem bindG_rel {α β : Type} {R : α → β → Prop} {pos : List Nat} {kw : List (Nat × α)} {kw' : List (Nat × β)} {as : List α} {bs : List β} {ks : List (Nat × α)} {zs : List (Nat × β)} {r : List α}
    (hkw : Paired (fun a b => a.1 = b.1 ∧ R a.2 b.2) kw kw') (ha : Paired R as bs) (hk : Paired (fun a b => a.1 = b.1 ∧ R a.2 b.2) ks zs) (e : bindG pos kw as ks = some r) : ∃ r', bindG pos kw' bs zs = some r' ∧ Paired R r r' := by
  unfold bindG at e ⊢
  rw [← Paired.length ha, ← keysK hk, ← keysK hkw]
  split at e
  · rename_i c
    rw [if_pos c]
    split at e
    · rename_i vs hvs
      cases e
      have h1 : ∀ (l : List Nat) (vs : List α), mapO (fun p => ks.lookup p) l = some vs → ∃ ws, mapO (fun p => zs.lookup p) l = some ws ∧ Paired R vs ws := by
        intro l
        induction l with
        | nil => intro vs h; simp [mapO] at h; subst h; exact ⟨[], rfl, .nil⟩
        | cons p l ih =>
          intro vs h
          simp only [mapO] at h
          split at h
          · cases h
          · rename_i y e1
            split at h
            · cases h
            · rename_i ys e2
              cases h
              obtain ⟨ws, e3, e4⟩ := ih ys e2
              rcases lookK (p := p) hk with ⟨q, _⟩ | ⟨a, b, q1, q2, q3⟩
              · rw [q] at e1; cases e1
              · rw [q1] at e1; cases e1
                exact ⟨b :: ws, by simp only [mapO, q2, e3], .cons q3 e4⟩
      obtain ⟨ws, e3, e4⟩ := h1 _ _ hvs
      refine ⟨_, by rw [e3], pairedApp (pairedApp ha e4) ?_⟩
      clear c hvs e3
      induction hkw with
      | nil => exact .nil
      | cons h t ih =>
        refine .cons ?_ ih
        rename_i a b _ _
        obtain ⟨h1, h2⟩ := h
        show R ((ks.lookup a.1).getD a.2) ((zs.lookup b.1).getD b.2)
        rw [← h1]
        rcases lookK (p := a.1) hk with ⟨q1, q2⟩ | ⟨x, y, q1, q2, q3⟩
        · rw [q1, q2]; exact h2
        · rw [q1, q2]; exact q3
    · cases e
  · cases e
theorem vrels_paired : ∀ {xs : List MV} {vs : List V}, VRels G ρ H xs vs ↔ Paired (VRel G ρ H) xs vs
  | [], vs => ⟨fun h => by cases h; exact .nil, fun h => by cases h; rfl⟩
  | x :: xs, vs => ⟨fun h => by obtain ⟨v, r, rfl, hv, t⟩ := h; exact .cons hv (vrels_paired.mp t), fun h => by cases h with | cons hv t => exact ⟨_, _, rfl, hv, vrels_paired.mpr t⟩⟩
end
/-- machine values of the evaluator's -/
def VV (G : GI) (ρ : List Addr) (H : Hp) (x : MV) (u : Value) : Prop := ∃ v, VRel G ρ H x v ∧ RelV v u
theorem vv_split {G : GI} {ρ : List Addr} {H : Hp} : ∀ {xs : List MV} {us : List Value}, Paired (VV G ρ H) xs us → ∃ vs, VRels G ρ H xs vs ∧ Vals vs us
  | _, _, .nil => ⟨[], rfl, .nil⟩
  | _, _, .cons ⟨v, h1, h2⟩ t => by
    obtain ⟨vs, h3, h4⟩ := vv_split t
    exact ⟨v :: vs, ⟨v, vs, rfl, h1, h3⟩, .cons h2 h4⟩
theorem vv_of {G : GI} {ρ : List Addr} {H : Hp} : ∀ {xs : List MV} {vs : List V} {us : List Value}, VRels G ρ H xs vs → Vals vs us → Paired (VV G ρ H) xs us
  | [], _, _, h, r => by cases h; cases r; exact .nil
  | x :: xs, _, _, h, r => by
    obtain ⟨v, t, rfl, hv, ht⟩ := h
    cases r with
    | cons r rs => exact .cons ⟨v, hv, r⟩ (vv_of ht rs)
theorem vv_le {G : GI} {ρ ρ' : List Addr} {S : Store} {H H' : Hp} (R : Rel G ρ S H) (l : Le ρ H ρ' H') : ∀ {xs : List MV} {us : List Value}, Paired (VV G ρ H) xs us → Paired (VV G ρ' H') xs us
  | _, _, .nil => .nil
  | _, _, .cons ⟨v, h1, h2⟩ t => .cons ⟨v, h1.le R l, h2⟩ (vv_le R l t)

theorem zipk {G : GI} {ρ : List Addr} {H : Hp} : ∀ (ks : List (Nat × MV)) (ws : List Value), Paired (VV G ρ H) (ks.map (·.2)) ws → ((ks.map fun q => G.nm q.1).zip ws) = (((ks.map (·.1)).zip ws).map fun q => (G.nm q.1, q.2)) ∧ Paired (fun (a : Nat × MV) (b : Nat × Value) => a.1 = b.1 ∧ VV G ρ H a.2 b.2) ks ((ks.map (·.1)).zip ws) := by
  intro ks
  induction ks with
  | nil => intro ws h; cases h; exact ⟨rfl, .nil⟩
  | cons q ks ih =>
    intro ws h
    cases h with
    | cons h t =>
      obtain ⟨e1, e2⟩ := ih _ t
      exact ⟨by simp [e1], .cons ⟨rfl, h⟩ e2⟩
section
variable {G : GI} {Γ : Prog} {P : Program} {w : World} {K : PySem.W.Frag} {mg : Str → Option Value} {base : Heap}
/-- a def's code, run -/
theorem run_ok {n : Nat} (hc : CallsAt G Γ P w K mg base n) {g : Nat} {d : MDef} (ef : Γ.fn g = some d) {as : List MV} {ks : List (Nat × MV)} {us ws : List Value} {A : Around} {outer : List Env} {H : Hp} {s : Shared} {ρ : List Addr} {S : Store} {Q : VK} {E : XK}
    (hr : Room n A) (hg : A.guards = some []) (e0 : Env0 P w K mg base A outer s H) (X : K.In s.heap) (R : Rel G ρ S H) (ha : Paired (VV G ρ H) as us) (hk : Paired (VV G ρ H) (ks.map (·.2)) ws) (k : K1 G ρ H (calls Γ n g as ks S) (RV G) Q (exE G E)) :
    codeAny (model P w) A (.call (.ref (G.ad g)) ⟨us, (ks.map fun q => G.nm q.1).zip ws⟩) (CR (L2.CX P w) outer P w H s Q E) s := by
  obtain ⟨ez, hkp⟩ := zipk ks ws hk
  rw [ez]
  cases n with
  | zero => exact k.elim
  | succ n =>
    unfold calls at k
    simp only [ef] at k
    cases eb : bindM d as ks with
    | none => simp only [eb] at k; exact k.elim
    | some fu =>
      simp only [eb] at k
      obtain ⟨fd, dv, D, F⟩ := hc g d ef
      have hdf : Paired (fun (a : Nat × MV) (b : Nat × Value) => a.1 = b.1 ∧ VV G ρ H a.2 b.2) d.kwo (d.kwo.map fun q => (q.1, dv q.1)) := by
        have := pairedMap (R := fun (a : Nat × MV) (b : Nat × Value) => a.1 = b.1 ∧ VV G ρ H a.2 b.2) (f := id) (g := fun q : Nat × MV => (q.1, dv q.1)) d.kwo fun q hq => by
          obtain ⟨x, h1, h2⟩ := D.dv q hq
          exact ⟨rfl, x, h2 ρ H, h1⟩
        rw [List.map_id] at this
        exact this
      obtain ⟨fus, e1, e2⟩ := bindG_rel hdf ha hkp eb
      obtain ⟨fvs, e3, e4⟩ := vv_split e2
      have hlen : fvs.length = (parNames G d).length := by
        rw [← e3.length]
        unfold bindM bindG at eb
        split at eb
        · rename_i c
          split at eb
          · rename_i vs hvs
            cases eb
            unfold parNames
            rw [List.length_map, List.length_append, List.length_append, List.length_append, List.length_map, List.length_map, (mapO_len hvs).1, List.length_drop]
            omega
          · cases eb
        · cases eb
      refine F A outer s H ⟨us, _⟩ fus fvs Q E hr hg e0 (bind_to D.fd X e1) e4 hlen ⟨ρ, S, fu, R, e3, ?_⟩
      have ef2 : full Γ (n + 1) g fu S = runD Γ (calls Γ n) d fu S := by simp only [full, ef]
      show K1 G ρ H (full Γ (n + 1) g fu S) _ _ _
      rw [ef2]
      exact k
end
section
variable {X : Cx} {G : GI} {Γ : Prog}
theorem exW_of {W : WX} {σ : L2.St} {e : Exn} {ρ : List Addr} {H : Hp} : exW G W σ e ρ H = exE G (fun c d H' => W c d σ H') e ρ H := rfl
/-- a def, a class called with values -/
theorem call_ok {n : Nat} (hr : Room n X.A) (hg : X.A.guards = some []) (hc : ∀ m ≤ n, CallsAt G Γ X.prog X.w X.K X.mg X.base m) (hcl : ClsAt G Γ X.K) {W : WX} (tk : Takes X W)
    {g : Nat} {as : List MV} {ks : List (Nat × MV)} {us ws : List Value} {pins : List (Addr × Obj)} {σ : L2.St} {H : Hp} {s : Shared} {ρ : List Addr} {S : Store} {Q : VK} (I : L2.Inv X pins σ H s) (R : Rel G ρ S H)
    (ha : Paired (VV G ρ H) as us) (hk : Paired (VV G ρ H) (ks.map (·.2)) ws) (k : K1 G ρ H (calls Γ n g as ks S) (RV G) Q (exW G W σ)) : wpAny (model X.prog X.w) X.A (call (.ref (G.ad g)) us ((ks.map fun q => G.nm q.1).zip ws)) (EP X pins σ Q) X.xe s := by
  cases ef : Γ.fn g with
  | some d =>
    refine wpAny_call (codeAny_mono (run_ok (E := fun c d' H' => W c d' σ H') (hc n (Nat.le_refl _)) ef hr hg I.env0 I.kIn R ha hk k) fun r s' hq => ?_)
    cases r with
    | error e => exact tk _ _ (XE.of_call I (fun _ _ _ h => h) hq)
    | ok fl =>
      cases fl with
      | ret u => exact I.after hq
      | next => exact False.elim hq
      | brk => exact False.elim hq
      | cont => exact False.elim hq
  | none =>
    cases n with
    | zero => exact k.elim
    | succ n =>
      unfold calls at k
      simp only [ef] at k
      cases ec : Γ.cls g with
      | none => simp only [ec] at k; exact k.elim
      | some c =>
        simp only [ec] at k
        obtain ⟨M, d, ed⟩ := hcl g c ef ec
        have nx := I.hok.fresh (Nat.le_succ s.heap.objs.size)
        have ndx := I.hok.fresh (Nat.le_refl s.heap.objs.size)
        have I2 := L2.Inv.made (C := G.ad g) I
        have h0 : Rel G ρ S (upd H s.heap.objs.size (.own (s.heap.objs.size + 1))) ∧ Le ρ H ρ (upd H s.heap.objs.size (.own (s.heap.objs.size + 1))) := by
          have np := R.notin ndx
          have l : Le ρ H ρ (upd H s.heap.objs.size (.own (s.heap.objs.size + 1))) := {
            pre := List.prefix_refl _
            keep := fun a o h _ => by rw [upd_ne (ne_of_none h ndx)]; exact h
            frz := fun a o x h => by rw [upd_ne (ne_of_none h ndx)]; exact h
            new := fun b m => .inl m }
          refine ⟨⟨R.len, R.nd, fun j b x hb hx => (R.obj j b x hb hx).mono l.pre (l.ext R) (upd_ne fun q => np (by rw [← q]; exact List.mem_of_getElem? hb)), fun b xs h m => ?_⟩, l⟩
          by_cases q : b = s.heap.objs.size
          · rw [q, upd_same] at h; cases h
          · rw [upd_ne q] at h
            exact R.tup b xs h m
        obtain ⟨h1, h2⟩ := h0
        have nx' : upd H s.heap.objs.size (.own (s.heap.objs.size + 1)) (s.heap.objs.size + 1) = none := by
          rw [upd_ne (Nat.succ_ne_self _)]; exact nx
        obtain ⟨R1, h4⟩ := h1.new (o := .ins g []) (u := .ins (G.ad g) s.heap.objs.size []) nx' ⟨_, _, rfl, rfl⟩
        have l1 := h2.trans h4
        have hself : VV G (ρ ++ [s.heap.objs.size + 1]) (upd (upd H s.heap.objs.size (.own (s.heap.objs.size + 1))) (s.heap.objs.size + 1) (.ins (G.ad g) s.heap.objs.size [])) (.ref S.length) (.ref (s.heap.objs.size + 1)) :=
          ⟨.ref (s.heap.objs.size + 1), ⟨_, by rw [← R.len]; simp, rfl⟩, rfl⟩
        have k2 := K1.bind (R := RV G) (k.le l1)
        refine wpAny_call (make_map (f := G.ad c.init) I.kIn M.makes M.init (beq_iff_eq.mp M.fn) (codeAny_mono (run_ok (E := fun c d' H' => W c d' σ H') (hc n (Nat.le_succ n)) ed (hr.make (G.ad g) us _) hg (I2.env0.make (G.ad g) us _) I2.kIn R1 (.cons hself (vv_le R l1 ha)) (vv_le R l1 hk) k2) fun r s' hq' => ?_))
        cases r with
        | error e => exact tk _ _ (XE.of_call I2 (fun _ _ _ h => h) hq')
        | ok fl =>
          cases fl with
          | ret u =>
            obtain ⟨v, H', I3, rv, ρ3, S3, mv, l3, r3, hv, q3⟩ := I2.after hq'
            split at q3
            · rename_i hn
              rw [isNon_iff hv] at hn
              have := of_decide_eq_true hn
              subst this
              exact ⟨rv, ⟨V.ref (s.heap.objs.size + 1), H', I3, rfl, q3.ok r3 (Le.refl _ _) ⟨_, pre_get l3.pre (by rw [← R.len]; simp), rfl⟩⟩⟩
            · exact q3.elim
          | next => exact False.elim hq'
          | brk => exact False.elim hq'
          | cont => exact False.elim hq'
end
end FE
/-! FEk: calls as expressions, fields, methods. -/
namespace FE
open PySem L2 PySem.Spec

/-! ### written arguments -/
def plainE : Expr → Bool
  | .Starred _ _ => false
  | _ => true
theorem star_plain {e : Expr} {es : List Expr} {env : Env} (h : plainE e = true) : starEach (e :: es) env = (false, eval e env) :: starEach es env := by
  cases e <;> first | rfl | cases h
theorem star_any : ∀ {es : List Expr} {env : Env} {pos : Pos}, es.all plainE = true → (backTo pos (starEach es env)).any (·.1) = false
  | [], _, _, _ => rfl
  | e :: es, env, pos, h => by
    rw [List.all_cons, Bool.and_eq_true] at h
    rw [star_plain h.1]
    show (false || (backTo pos (starEach es env)).any (·.1)) = false
    rw [star_any h.2]
    rfl
theorem star_none : ∀ {es : List Expr} {env : Env} {pos : Pos}, es.all plainE = true → (backTo pos (starEach es env)).all (fun x => !x.1) = true
  | [], _, _, _ => rfl
  | e :: es, env, pos, h => by
    rw [List.all_cons, Bool.and_eq_true] at h
    rw [star_plain h.1]
    show (true && (backTo pos (starEach es env)).all (fun x => !x.1)) = true
    rw [star_none h.2]
    rfl
theorem kw_names : ∀ {kws : List Keyword} {env : Env} {pos : Pos}, (backToKw pos (keywordEach kws env)).filterMap (·.1) = kws.filterMap (·.arg)
  | [], _, _ => rfl
  | ⟨none, e, p⟩ :: kws, env, pos => by
    show (backToKw pos (keywordEach kws env)).filterMap (·.1) = _
    rw [kw_names]
    rfl
  | ⟨some k, e, p⟩ :: kws, env, pos => by
    show k :: (backToKw pos (keywordEach kws env)).filterMap (·.1) = _
    rw [kw_names]
    rfl
theorem kw_all : ∀ {kws : List Keyword} {env : Env} {pos : Pos}, kws.all (·.arg.isSome) = true → (backToKw pos (keywordEach kws env)).all (·.1.isSome) = true ∧ (backToKw pos (keywordEach kws env)).any (·.1.isNone) = false
  | [], _, _, _ => ⟨rfl, rfl⟩
  | ⟨none, e, p⟩ :: kws, env, pos, h => by simp at h
  | ⟨some k, e, p⟩ :: kws, env, pos, h => by
    rw [List.all_cons, Bool.and_eq_true] at h
    obtain ⟨h1, h2⟩ := kw_all (env := env) (pos := pos) h.2
    exact ⟨by show (true && _) = true; rw [Bool.true_and]; exact h1, by show (false || _) = false; rw [Bool.false_or]; exact h2⟩
theorem kw_len : ∀ {kws : List Keyword} {env : Env} {pos : Pos}, (backToKw pos (keywordEach kws env)).isEmpty = kws.isEmpty
  | [], _, _ => rfl
  | ⟨k, e, p⟩ :: kws, env, pos => rfl
/-! ### keywords' values -/
def TKw (G : GI) (d : Slots → Store → Out (List (Nat × MV))) (W : WX) : TA := fun σ H Q => ∃ ρ S m, Rel G ρ S H ∧ SRel G ρ H m σ ∧ K1 G ρ H (d m S) (fun ρ H ks vs => VRels G ρ H (ks.map (·.2)) vs) Q (exW G W σ)
section
variable {X : Cx} {G : GI} {W : WX} {a o : Expr} {es : List Expr} {kws : List Keyword} {da d : Slots → Store → Out MV} {dA : Slots → Store → Out (List MV)} {dK dK2 : Slots → Store → Out (List (Nat × MV))} {pos apos : Pos}
theorem jk_nil (e : ∀ m S, dK m S = .ok [] S) : PK X [] (TKw G dK W) := ⟨fun pos pins s σ H Q I ⟨ρ, S, m, R, sr, k⟩ => pk_nil.run pos pins s σ H Q I (by rw [e] at k; exact k.ok R (Le.refl _ _) rfl)⟩
theorem jk_cons {k : Nat} {nm : Option Str} {kpos : Pos} (ha : PE X a (T G da W)) (hr : PK X kws (TKw G dK2 W)) (e : ∀ m S, dK m S = (da m S).bind fun x S1 => (dK2 m S1).bind fun xs S2 => .ok ((k, x) :: xs) S2) : PK X (⟨nm, a, kpos⟩ :: kws) (TKw G dK W) := by
  have base := pk_cons (nm := nm) (kpos := kpos) ha hr
  refine ⟨fun pos pins s σ H Q I ⟨ρ, S, m, R, sr, k⟩ => base.run pos pins s σ H Q I ?_⟩
  rw [e] at k
  refine ⟨ρ, S, m, R, sr, (K1.bind (R := RV G) k).mono fun x H1 ⟨ρ1, S1, v, l, r, hv, q⟩ => ⟨ρ1, S1, m, r, sr.le R l, (K1.bind (R := fun ρ H (ks : List (Nat × MV)) vs => VRels G ρ H (ks.map (·.2)) vs) q).mono fun xs H2 ⟨ρ2, S2, vs, l2, r2, hvs, q2⟩ => ?_⟩⟩
  exact q2.ok r2 (Le.refl _ _) ⟨x, xs, rfl, hv.le r l2, hvs⟩
/-- written positional arguments and keywords, both run: what the callee gets -/
theorem args_run (ha : PA X es (TAs G dA W)) (hk : PK X kws (TKw G dK W)) (hp : es.all plainE = true) (hks : kws.all (·.arg.isSome) = true) (hnil : es = [] → ∀ m S, dA m S = .ok [] S) {f : Value} {pins : List (Addr × Obj)} {s : Shared} {σ : L2.St} {H : Hp} {ρ : List Addr} {S : Store} {m : Slots} {h : List MV → List (Nat × MV) → Store → Out MV} {Q : VK} {Qf : Args → Shared → Prop}
    (I : L2.Inv X pins σ H s) (R : Rel G ρ S H) (sr : SRel G ρ H m σ) (k : K1 G ρ H ((dA m S).bind fun xs S1 => (dK m S1).bind fun ys S2 => h xs ys S2) (RV G) Q (exW G W σ))
    (q : ∀ us ws xs ys ρ2 S2 H2 s2, L2.Inv X pins σ H2 s2 → Le ρ H ρ2 H2 → Rel G ρ2 S2 H2 → Paired (VV G ρ2 H2) xs us → Paired (VV G ρ2 H2) (ys.map (·.2)) ws → (∃ S1, dK m S1 = .ok ys S2) → K1 G ρ2 H2 (h xs ys S2) (RV G) Q (exW G W σ) → Qf ⟨us, (kws.filterMap (·.arg)).zip ws⟩ s2) :
    wpAny (model X.prog X.w) X.A (evalArgs f true (backTo pos (starEach es X.env)) (backToKw pos (keywordEach kws X.env))) Qf X.xe s := by
  obtain ⟨hall, _⟩ := kw_all (env := X.env) (pos := pos) hks
  have tail : ∀ us vs xs ρ1 S1 H1 s1, L2.Inv X pins σ H1 s1 → Le ρ H ρ1 H1 → Rel G ρ1 S1 H1 → VRels G ρ1 H1 xs vs → Vals vs us → K1 G ρ1 H1 ((dK m S1).bind fun ys S2 => h xs ys S2) (RV G) Q (exW G W σ) →
      wpAny (model X.prog X.w) X.A (evalAll ((backToKw pos (keywordEach kws X.env)).map (·.2))) (fun ks s₂ => Qf ⟨us, ((backToKw pos (keywordEach kws X.env)).filterMap (·.1)).zip ks⟩ s₂) X.xe s1 := fun us vs xs ρ1 S1 H1 s1 I1 l1 R1 hvs hv k1 => by
    rw [kw_names]
    refine thn (hk.run pos pins s1 σ H1 (fun zs H2 => ∃ ρ2 S2 ys, Le ρ1 H1 ρ2 H2 ∧ Rel G ρ2 S2 H2 ∧ VRels G ρ2 H2 (ys.map (·.2)) zs ∧ dK m S1 = .ok ys S2 ∧ K1 G ρ2 H2 (h xs ys S2) (RV G) Q (exW G W σ)) I1 ⟨ρ1, S1, m, R1, sr.le R l1, ?_⟩) fun ws s2 ⟨zs, H2, I2, rz, ρ2, S2, ys, l2, R2, hys, ed, q2⟩ => ?_
    · cases ed : dK m S1 with
      | stuck => rw [ed] at k1; exact k1.elim
      | exc x S2 => rw [ed] at k1; exact k1
      | ok ys S2 =>
        rw [ed] at k1
        exact fun ρ2 H2 w l2 r2 hw => ⟨ρ2, S2, ys, l2, r2, hw, rfl, K1.le k1 l2⟩
    · exact q us ws xs ys ρ2 S2 H2 s2 I2 (l1.trans l2) R2 (vv_le R1 l2 (vv_of hvs hv)) (vv_of hys rz) ⟨S1, ed⟩ q2
  cases es with
  | nil =>
    refine PyProof.Rows.evalArgs_kw2_nil hall ?_
    refine tail [] [] [] ρ S H s I (Le.refl _ _) R rfl .nil ?_
    rw [hnil rfl] at k
    exact k
  | cons e es =>
    rw [List.all_cons, Bool.and_eq_true] at hp
    refine PyProof.Rows.evalArgs_kw2 hall ?_ (star_plain hp.1)
    refine thn (ha.run pos pins s σ H _ I ⟨ρ, S, m, R, sr, K1.bind (R := RVs G) k⟩) fun us s1 ⟨vs, H1, I1, rv, ρ1, S1, xs, l1, R1, hvs, k1⟩ => ?_
    exact tail us vs xs ρ1 S1 H1 s1 I1 l1 R1 hvs rv k1
/-- f(..), f a def or a class of the text -/
theorem je_call {Γ : Prog} {n g : Nat} {p : Pos} (hr : Room n X.A) (hgd : X.A.guards = some []) (hc : ∀ m ≤ n, CallsAt G Γ X.prog X.w X.K X.mg X.base m) (hcl : ClsAt G Γ X.K) (tk : Takes X W) (hg : Gl X (G.nm g)) (hm : X.mg (G.nm g) = some (.ref (G.ad g)))
    (hkp : PySem.W.keepIn X.K (.ref (G.ad g)) = true) (hdb : (G.nm g == ("__debug__" : Str)) = false) (ha : PA X es (TAs G dA W)) (hk : PK X kws (TKw G dK W)) (hp : es.all plainE = true) (hks : kws.all (·.arg.isSome) = true) (hnil : es = [] → ∀ m S, dA m S = .ok [] S)
    (hkeys : ∀ m S ys S2, dK m S = .ok ys S2 → kws.filterMap (·.arg) = ys.map fun q => G.nm q.1) (e : ∀ m S, d m S = (dA m S).bind fun xs S1 => (dK m S1).bind fun ys S2 => calls Γ n g xs ys S2) : PE X (.Call (.Name (G.nm g) p) es kws pos) (T G d W) := by
  refine ⟨fun pins s σ H Q I ⟨ρ, S, m, R, sr, k⟩ => ?_⟩
  rw [e] at k
  refine wpAny_Call_Name_kw (ld_glob I hg hm ?_ hdb)
  refine PySem.W.callWith_of (P := X.K.In) (by rw [star_any hp, (kw_all hks).2]; rfl) (PySem.W.keeps_K hkp) (args_run ha hk hp hks hnil I R sr k fun us ws xs ys ρ2 S2 H2 s2 I2 l2 R2 h1 h2 ⟨S1, h3⟩ k2 => ⟨I2.kIn, ?_⟩)
  rw [hkeys _ _ _ _ h3]
  exact call_ok hr hgd hc hcl tk I2 R2 h1 h2 k2
/-! ### fields -/
def tyVal : TyC → Value
  | .own _ => .none
  | .non => .type "NoneType"
  | .str => .type "str"
  | .int => .type "int"
  | .bool => .type "bool"
  | .list => .type "list"
  | .tuple => .type "tuple"
  | .dict => .type "dict"
def clVal : Cl → Value
  | .own _ => .none
  | .str => .type "str"
  | .int => .type "int"
  | .bool => .type "bool"
  | .list => .type "list"
  | .tuple => .type "tuple"
  | .dict => .type "dict"
def tyBlt : List TyC := [.non, .str, .int, .bool, .list, .tuple, .dict]
def clBlt : List Cl := [.str, .int, .bool, .list, .tuple, .dict]
/-- what isinstance asks of a class -/
structure IsK (G : GI) (Γ : Prog) (K : PySem.W.Frag) (g : Nat) : Prop where
  ha : PySem.W.findIn K (.ref (G.ad g)) "__class__" = some (some (.builtin "object.__class__"))
  hn : some (some (.builtin "getset_descriptor.__get__")) = PySem.W.specialIn K (.builtin "object.__class__") "__get__"
  htk : some true = PySem.W.takesIn K (.builtin "object.__class__")
  hm : PySem.W.mroIn K (G.ad g) (.type "object") = some true
  kb : ∀ t ∈ tyBlt, PySem.W.kitOne K (tyVal t) (.ref (G.ad g)) = some false
  kc : ∀ c ∈ clBlt, PySem.W.kitOne K (.ref (G.ad g)) (clVal c) = some false
  ko : ∀ g' c', Γ.cls g' = some c' → g' ≠ g → PySem.W.kitOne K (.ref (G.ad g)) (.ref (G.ad g')) = some false
/-- what is known of the text's classes -/
structure ClsK (G : GI) (Γ : Prog) (K : PySem.W.Frag) (g : Nat) (c : MCls) : Prop where
  cl : Cls K (G.ad g)
  no : ∀ f ∈ c.flds, NoAttr K (G.ad g) (G.nm f)
  me : ∀ q ∈ c.meths, Meth K (G.ad g) (G.nm q.1) (G.ad q.2)
  is : IsK G Γ K g
def ClssK (G : GI) (Γ : Prog) (K : PySem.W.Frag) : Prop := ∀ g c, Γ.cls g = some c → ClsK G Γ K g c
/-- an instance's fields are of its class -/
theorem frel_look {G : GI} {ρ : List Addr} {H : Hp} : ∀ {fs : List (Nat × MV)} {gs : List (Str × V)} {f : Nat}, FRel G ρ H fs gs → (fs.lookup f = none ∧ gs.lookup (G.nm f) = none) ∨ ∃ x v, fs.lookup f = some x ∧ gs.lookup (G.nm f) = some v ∧ VRel G ρ H x v
  | [], _, f, h => by cases h; exact .inl ⟨rfl, rfl⟩
  | (k, x) :: fs, _, f, h => by
    obtain ⟨v, r, rfl, hv, t⟩ := h
    rw [List.lookup_cons, List.lookup_cons]
    by_cases q : f = k
    · subst q
      simp only [beq_self_eq_true]
      exact .inr ⟨x, v, rfl, rfl, hv⟩
    · have h1 : (f == k) = false := beq_eq_false_iff_ne.mpr q
      have h2 : (G.nm f == G.nm k) = false := beq_eq_false_iff_ne.mpr fun z => q (G.inj _ _ z)
      rw [h1, h2]
      exact frel_look t
theorem frel_put {G : GI} {ρ : List Addr} {H : Hp} {f : Nat} {x : MV} {v : V} (hv : VRel G ρ H x v) : ∀ {fs : List (Nat × MV)} {gs : List (Str × V)}, FRel G ρ H fs gs → FRel G ρ H (putM f x fs) (putF (G.nm f) v gs)
  | [], _, h => by cases h; exact ⟨v, [], rfl, hv, rfl⟩
  | (k, y) :: fs, _, h => by
    obtain ⟨w, r, rfl, hw, t⟩ := h
    unfold putM putF
    by_cases q : k = f
    · subst q
      rw [if_pos rfl, if_pos rfl]
      exact ⟨v, r, rfl, hv, t⟩
    · rw [if_neg q, if_neg fun z => q (G.inj _ _ z)]
      exact ⟨w, _, rfl, hw, frel_put hv t⟩
theorem FRel.length {G : GI} {ρ : List Addr} {H : Hp} : ∀ {fs : List (Nat × MV)} {gs : List (Str × V)}, FRel G ρ H fs gs → fs.length = gs.length
  | [], _, h => by cases h; rfl
  | (k, y) :: fs, _, h => by
    obtain ⟨w, r, rfl, hw, t⟩ := h
    simp [FRel.length t]
theorem base_of {o : Expr} {f : Str} {env : Env} (h : (match o with
    | .Call (.Name _ _) [] [] _ => false
    | _ => true) = true) : attributeBase o f env (eval o env) = eval o env := by
  unfold attributeBase
  split
  · cases h
  · rfl
theorem je_attr {Γ : Prog} {f : Nat} (hK : X.K = G.K) (hcl : ClssK G Γ X.K) (ha : PE X a (T G da W)) (hb : attributeBase a (G.nm f) X.env (eval a X.env) = eval a X.env) (e : ∀ m S, d m S = (da m S).bind fun x S1 => oneO (attrV Γ x f S1) S1) :
    PE X (.Attribute a (G.nm f) pos) (T G d W) :=
  (pe_fld ha hb).imp fun σ H Q h => (T.seq (f := fun x _ S1 => oneO (attrV Γ x f S1) S1) h e).mono fun x H1 ⟨ρ, S, m, v, R, s, hv, k⟩ => by
    obtain ⟨z, e1, q⟩ := k.one_ok R
    unfold attrV at e1
    split at e1
    · rename_i i
      split at e1
      · rename_i c fs e2
        split at e1
        · rename_i cd e3
          split at e1
          · rename_i hf
            obtain ⟨p, rfl, _, u, hu, dx, gs, rfl, cr⟩ := R.ref e2 hv
            have C := hcl c cd e3
            rcases frel_look (f := f) cr with ⟨q1, _⟩ | ⟨y, w, q1, q2, q3⟩
            · rw [q1] at e1; cases e1
            · rw [q1] at e1
              cases e1
              exact ⟨p, G.ad c, dx, gs, w, rfl, hu, C.cl, C.no f (List.contains_iff_mem.mp hf), q2, q w q3⟩
          · cases e1
        · cases e1
      · cases e1
    · cases e1
end
end FE
/-! FEl: methods of built-in types and of own classes. -/
namespace FE
open PySem L2 PySem.Spec

def bmT : BM → String
  | .join => "str"
  | _ => "list"
def bmId : BM → String
  | .join => "str.join" | .append => "list.append" | .extend => "list.extend" | .pop => "list.pop" | .popAt => "list.pop" | .clear => "list.clear"
def bmNm : BM → Str
  | .join => "join" | .append => "append" | .extend => "extend" | .pop => "pop" | .popAt => "pop" | .clear => "clear"
theorem bm_plain (b : BM) : PlainAttrs (bmT b) := by
  cases b
  case join => exact PySem.F.plainAttrs_str
  all_goals exact PySem.F.plainAttrs_list
theorem bm_slot (b : BM) : Slot (bmT b) (bmNm b) (bmId b) := by
  cases b
  case join => exact PySem.F.slot_str_join
  case append => exact PySem.F.slot_list_append
  case extend => exact PySem.F.slot_list_extend
  case pop => exact PySem.F.slot_list_pop
  case popAt => exact PySem.F.slot_list_pop
  case clear => exact PySem.F.slot_list_clear
theorem bm_type (b : BM) : typeOf (.builtin (bmId b)) = pure (.type "method_descriptor") := by
  cases b
  case join => exact PySem.F.type_str_join
  case append => exact PySem.F.type_list_append
  case extend => exact PySem.F.type_list_extend
  case pop => exact PySem.F.type_list_pop
  case popAt => exact PySem.F.type_list_pop
  case clear => exact PySem.F.type_list_clear
def kdT : Kd → String
  | .str => "str" | .tup => "tuple" | .lst => "list" | .dk => "dict" | .dt => "dict"
theorem bmOf_T {kd : Kd} {m k : Nat} {b : BM} (h : bmOf kd m k = some b) : bmT b = kdT kd := by
  unfold bmOf at h
  split at h <;> cases h <;> rfl
def rMeth0 (G : GI) (f : MV → List MV → Store → Out MV) : V → List V → Hp → VK → Prop := fun x xs H Q => ∃ ρ S o as, Rel G ρ S H ∧ VRel G ρ H o x ∧ VRels G ρ H as xs ∧ K1 G ρ H (f o as S) (RV G) Q (fun _ _ _ => False)
theorem lstAt_rel {G : GI} {ρ : List Addr} {S : Store} {H : Hp} (R : Rel G ρ S H) {i : Nat} {xs : List MV} {v : V} (h : lstAt S i = some xs) (r : VRel G ρ H (.ref i) v) : ∃ a vs, v = .ref a ∧ ρ[i]? = some a ∧ H a = some (.lst vs) ∧ VRels G ρ H xs vs ∧ S[i]? = some (.lst xs) := by
  unfold lstAt at h
  split at h
  · rename_i ys e
    cases h
    obtain ⟨a, rfl, e1, u, hu, vs, rfl, c⟩ := R.ref e r
    exact ⟨a, vs, rfl, e1, hu, c, e⟩
  · cases h
theorem VRels.dropLast {G : GI} {ρ : List Addr} {H : Hp} {xs : List MV} {vs : List V} (h : VRels G ρ H xs vs) : VRels G ρ H xs.dropLast vs.dropLast := by
  rw [List.dropLast_eq_take, List.dropLast_eq_take, h.length]
  exact vrels_take _ h
theorem VRels.eraseIdx {G : GI} {ρ : List Addr} {H : Hp} : ∀ {xs : List MV} {vs : List V} (i : Nat), VRels G ρ H xs vs → VRels G ρ H (xs.eraseIdx i) (vs.eraseIdx i)
  | [], _, i, h => by cases h; simp [VRels]
  | x :: xs, _, 0, h => by
    obtain ⟨v, r, rfl, _, t⟩ := h
    exact t
  | x :: xs, _, i + 1, h => by
    obtain ⟨v, r, rfl, hv, t⟩ := h
    exact ⟨v, r.eraseIdx i, rfl, hv, VRels.eraseIdx i t⟩
section
variable {X : Cx} {G : GI}
theorem bm_ok (hK : X.K = G.K) (b : BM) : MtR X (bmId b) (rMeth0 G (bmV b)) := by
  intro pins s σ H x xs v us Q I rx rs h
  obtain ⟨ρ, S, o, as, R, ho, ha, k⟩ := h
  unfold bmV at k
  split at k
  · obtain ⟨y, rfl, h1⟩ := ha.inv1
    obtain ⟨zs, e, k⟩ := k.opt_ok
    obtain ⟨ys, e2, k⟩ := k.opt_ok
    split at k
    · rename_i c
      cases ho
      obtain ⟨a, ws, rfl, hp, hr, _⟩ := rd_sql hK R e h1
      rw [strs_of hr e2] at hp
      exact mt_join pins s σ H _ _ v us Q I rx rs ⟨_, a, ys, rfl, rfl, .inl hp, Nat.le_trans c (by decide), k.ok R (Le.refl _ _) rfl⟩
    · exact k.elim
  · obtain ⟨y, rfl, h1⟩ := ha.inv1
    obtain ⟨zs, e, k⟩ := k.opt_ok
    split at k
    · rename_i c
      obtain ⟨a, ws, rfl, hi, hp, hr, e2⟩ := lstAt_rel R e ho
      obtain ⟨R', l⟩ := R.set (o' := .lst (zs ++ [_])) hi e2 rfl ⟨_, rfl, hr.append (VRels.one h1)⟩
      exact mt_append pins s σ H _ _ v us Q I rx rs ⟨a, ws, y, rfl, rfl, hp, by rw [← hr.length]; exact lt_lim c, k.ok R' l rfl⟩
    · exact k.elim
  · obtain ⟨y, rfl, h1⟩ := ha.inv1
    obtain ⟨zs, e, k⟩ := k.opt_ok
    obtain ⟨ys, e3, k⟩ := k.opt_ok
    split at k
    · rename_i c
      obtain ⟨a, ws, rfl, hi, hp, hr, e2⟩ := lstAt_rel R e ho
      obtain ⟨a', ws', rfl, hi', hp', hr', e2'⟩ := lstAt_rel R e3 h1
      obtain ⟨R', l⟩ := R.set (o' := .lst (zs ++ ys)) hi e2 rfl ⟨_, rfl, hr.append hr'⟩
      exact mt_extend pins s σ H _ _ v us Q I rx rs ⟨a, a', ws, ws', rfl, rfl, hp, hp', by rw [← hr.length, ← hr'.length]; exact le_lim c, k.ok R' l rfl⟩
    · exact k.elim
  · cases ha
    obtain ⟨zs, e, k⟩ := k.opt_ok
    obtain ⟨y, e3, k⟩ := k.opt_ok
    obtain ⟨a, ws, rfl, hi, hp, hr, e2⟩ := lstAt_rel R e ho
    obtain ⟨w, e4, hw⟩ := hr.get e3
    obtain ⟨R', l⟩ := R.set (o' := .lst zs.dropLast) hi e2 rfl ⟨_, rfl, hr.dropLast⟩
    exact mt_pop pins s σ H _ _ v us Q I rx rs ⟨a, ws, w, rfl, rfl, hp, by rw [← hr.length]; exact e4, k.ok R' l (hw.le R l)⟩
  · obtain ⟨y, rfl, h1⟩ := ha.inv1
    cases h1
    obtain ⟨zs, e, k⟩ := k.opt_ok
    obtain ⟨j, e5, k⟩ := k.opt_ok
    obtain ⟨y, e3, k⟩ := k.opt_ok
    split at k
    · rename_i c
      obtain ⟨a, ws, rfl, hi, hp, hr, e2⟩ := lstAt_rel R e ho
      obtain ⟨w, e4, hw⟩ := hr.get e3
      obtain ⟨R', l⟩ := R.set (o' := .lst (zs.eraseIdx j)) hi e2 rfl ⟨_, rfl, VRels.eraseIdx j hr⟩
      obtain ⟨c1, c2⟩ := c
      rw [hr.length] at e5
      exact mt_popAt pins s σ H _ _ v us Q I rx rs ⟨a, ws, _, j, w, rfl, rfl, hp, by omega, by omega, (ixN_seq e5).1, e4, k.ok R' l (hw.le R l)⟩
    · exact k.elim
  · cases ha
    obtain ⟨zs, e, k⟩ := k.opt_ok
    obtain ⟨a, ws, rfl, hi, hp, hr, e2⟩ := lstAt_rel R e ho
    obtain ⟨R', l⟩ := R.set (o' := .lst []) hi e2 rfl ⟨_, rfl, rfl⟩
    exact mt_clear pins s σ H _ _ v us Q I rx rs ⟨a, ws, rfl, rfl, hp, k.ok R' l rfl⟩
  · exact k.elim
theorem nox_bm (b : BM) (o : MV) (as : List MV) (S : Store) : NoX (bmV b o as S) := by
  unfold bmV
  repeat' split
  all_goals first | trivial | skip
  all_goals (refine nox_opt fun _ => ?_)
  all_goals first | trivial | skip
  all_goals first | (split <;> trivial) | (refine nox_opt fun _ => ?_)
  all_goals first | trivial | (split <;> trivial) | (refine nox_opt fun _ => ?_)
  all_goals first | trivial | (split <;> trivial)
theorem kd_ty (hK : X.K = G.K) {ρ : List Addr} {S : Store} {H : Hp} (R : Rel G ρ S H) {x : MV} {v : V} {kd : Kd} (h : kdOf x S = some kd) (r : VRel G ρ H x v) (nt : kd ≠ .tup) : tyV X.K (kdT kd) v H := by
  unfold kdOf at h
  split at h
  · cases h; cases r; rfl
  · cases h; exact (nt rfl).elim
  · split at h
    · rename_i xs e
      cases h
      obtain ⟨a, rfl, _, u, hu, vs, rfl, c⟩ := R.ref e r
      exact .inl ⟨rfl, vs, SqL.of hu⟩
    · rename_i xs e
      cases h
      obtain ⟨a, rfl, _, u, hu, vs, rfl, c⟩ := R.ref e r
      exact .inr (.inr (.inl ⟨rfl, .inl ⟨vs, hu⟩⟩))
    · rename_i xs e
      cases h
      obtain ⟨a, rfl, _, u, hu, vs, rfl, c⟩ := R.ref e r
      exact .inr (.inr (.inl ⟨rfl, .inr ⟨vs, hu⟩⟩))
    · cases h
  · cases h
theorem bmOf_nt {kd : Kd} {m k : Nat} {b : BM} (h : bmOf kd m k = some b) : kd ≠ .tup := by
  unfold bmOf at h
  split at h <;> first | (cases h; intro z; cases z; done) | cases h
variable {W : WX} {o : Expr} {es : List Expr} {kws : List Keyword} {dO d : Slots → Store → Out MV} {dA : Slots → Store → Out (List MV)} {dK : Slots → Store → Out (List (Nat × MV))} {pos apos : Pos}
/-- a method call's decomposition -/
theorem meth_wp {M : Model} {A : Around} {E : Value → Shared → Prop} {env : Env} {name : Str} {s : Shared} {Q : Value → Shared → Prop} (hbase : attributeBase o name env (eval o env) = eval o env) (hp : es.all plainE = true) (hks : kws.all (·.arg.isSome) = true) (hfew : es.length + kws.length < 29) (hline : (apos.endLine == pos.line) = true)
    (h : wpAny M A (eval o env) (fun ov s1 => wpAny M A (getMethod ov name (plainOf o env)) (fun fx s2 => wpAny M A (callWith pos fx.1 fx.2 (backTo pos (starEach es env)) (backToKw pos (keywordEach kws env))) Q E s2) E s1) E s) :
    wpAny M A (eval (.Call (.Attribute o name apos) es kws pos) env) Q E s := by
  have hform : methodCallForm (es.length + kws.length) (backTo pos (starEach es env)) (backToKw pos (keywordEach kws env)) = true := by
    unfold methodCallForm
    rw [star_none hp, (kw_all hks).1]
    simp only [Bool.true_and]
    have : es.length + kws.length + (if (backToKw pos (keywordEach kws env)).isEmpty = true then 0 else 1) < 30 := by split <;> omega
    exact decide_eq_true this
  rw [arm_eval_Call, hbase]
  refine wpAny_bind (wpAny_mono h (fun ov s1 h1 => ?_) fun _ _ e => e)
  refine wpAny_bind (wpAny_standAt ?_)
  rw [mcall_line hform hline]
  exact wpAny_bind (wpAny_holding (wpAny_mono h1 (fun fx s2 h2 => h2) fun _ _ e => e))
theorem je_meth {Γ : Prog} {n mm : Nat} (hK : X.K = G.K) (hr : Room n X.A) (hgd : X.A.guards = some []) (hc : ∀ m ≤ n, CallsAt G Γ X.prog X.w X.K X.mg X.base m) (hcl : ClsAt G Γ X.K) (hcc : ClssK G Γ X.K) (tk : Takes X W)
    (hbm : ∀ kd k b, bmOf kd mm k = some b → G.nm mm = bmNm b) (ho : PE X o (T G dO W)) (hbase : attributeBase o (G.nm mm) X.env (eval o X.env) = eval o X.env) (ha : PA X es (TAs G dA W)) (hk : PK X kws (TKw G dK W)) (hp : es.all plainE = true) (hks : kws.all (·.arg.isSome) = true) (hnil : es = [] → ∀ m S, dA m S = .ok [] S)
    (hkeys : ∀ m S ys S2, dK m S = .ok ys S2 → kws.filterMap (·.arg) = ys.map fun q => G.nm q.1) {nk : Bool} (hnk : nk = true → kws = []) (hfew : es.length + kws.length < 29) (hline : (apos.endLine == pos.line) = true) {an : Nat}
    (e : ∀ m S, d m S = (dO m S).bind fun x S1 => match ownOf Γ x mm S1 with
      | some g => (dA m S1).bind fun xs S2 => (dK m S2).bind fun ys S3 => calls Γ n g (x :: xs) ys S3
      | none => match kdOf x S1 with
        | some kd => match bmOf kd mm an with
          | some b => if nk = true then (dA m S1).bind fun xs S2 => bmV b x xs S2 else .stuck
          | none => .stuck
        | none => .stuck) : PE X (.Call (.Attribute o (G.nm mm) apos) es kws pos) (T G d W) := by
  refine ⟨fun pins s σ H Q I ⟨ρ, S, m, R, sr, k⟩ => ?_⟩
  rw [e] at k
  refine meth_wp hbase hp hks hfew hline (thn (ho.run pins s σ H _ I ⟨ρ, S, m, R, sr, K1.bind (R := RV G) k⟩) fun ov s1 ⟨x, H1, I1, rx, ρ1, S1, mv, l1, R1, hv, k1⟩ => ?_)
  have sr1 := sr.le R l1
  split at k1
  · rename_i g eo
    unfold ownOf at eo
    split at eo
    · rename_i i
      split at eo
      · rename_i c fs e2
        split at eo
        · rename_i cd e3
          split at eo
          · rename_i hn
            obtain ⟨p, rfl, _, u, hu, dx, gs, rfl, cr⟩ := R1.ref e2 hv
            have C := hcc c cd e3
            have hmeth : Meth X.K (G.ad c) (G.nm mm) (G.ad g) := by
              have gen : ∀ l : List (Nat × Nat), (∀ q ∈ l, Meth X.K (G.ad c) (G.nm q.1) (G.ad q.2)) → l.lookup mm = some g → Meth X.K (G.ad c) (G.nm mm) (G.ad g) := by
                intro l
                induction l with
                | nil => intro _ h; cases h
                | cons q l ih =>
                  intro h1 h2
                  rw [List.lookup_cons] at h2
                  cases eq : mm == q.1 with
                  | true =>
                    rw [eq] at h2
                    cases h2
                    rw [beq_iff_eq.mp eq]
                    exact h1 q List.mem_cons_self
                  | false =>
                    rw [eq] at h2
                    exact ih (fun q hq => h1 q (List.mem_cons_of_mem _ hq)) h2
              exact gen _ C.me eo
            have hl : gs.lookup (G.nm mm) = none := by
              rcases frel_look (f := mm) cr with ⟨_, q⟩ | ⟨y, w, q1, _, _⟩
              · exact q
              · rw [q1] at hn; cases hn
            obtain rfl : ov = Value.ref p := rx
            refine getmeth_ok I1 hu C.cl hmeth hl ?_
            refine PySem.W.callWith_of (P := X.K.In) (by rw [star_any hp, (kw_all hks).2]; rfl) (PySem.W.keeps_K hmeth.kp) (args_run ha hk hp hks hnil I1 R1 sr1 k1 fun us ws xs ys ρ2 S2 H2 s2 I2 l2 R2 h1 h2 ⟨S0, h3⟩ k2 => ⟨I2.kIn, ?_⟩)
            rw [hkeys _ _ _ _ h3]
            exact call_ok hr hgd hc hcl tk I2 R2 (.cons ⟨.ref p, hv.le R1 l2, rfl⟩ h1) h2 k2
          · cases eo
        · cases eo
      · cases eo
    · cases eo
  · split at k1
    · rename_i kd ek
      split at k1
      · rename_i b eb
        split at k1
        · rename_i hn
          have hkw := hnk hn
          subst hkw
          have ty := kd_ty (X := X) hK R1 ek hv (bmOf_nt eb)
          rw [← bmOf_T eb] at ty
          obtain ⟨h1, h2⟩ := tyV_is I1 rx ty
          rw [hbm kd an b eb]
          refine getMethod_builtin h1 (bm_plain b) (bm_slot b) (bm_type b) h2 ?_
          refine PyProof.Rows.callWith_builtin_kwB (star_any hp) rfl ?_
          refine args_run (dK := fun _ S => .ok [] S) (h := fun xs _ S2 => bmV b mv xs S2) ha (jk_nil fun _ _ => rfl) hp hks hnil I1 R1 sr1 (Q := Q) (W := W) (by
            refine cast ?_ k1
            congr 1) fun us ws xs ys ρ2 S2 H2 s2 I2 l2 R2 a1 a2 _ k2 => ?_
          obtain ⟨vs, b1, b2⟩ := vv_split a1
          exact bm_ok hK b pins s2 σ H2 x vs ov us Q I2 rx b2 ⟨ρ2, S2, mv, xs, R2, hv.le R1 l2, b1, k2.nox (nox_bm _ _ _ _)⟩
        · exact k1.elim
      · exact k1.elim
    · exact k1.elim
end
end FE
/-! FEm: statements. -/
namespace FE
open PySem L2 PySem.Spec

/-- a statement's outcome against what is wanted behind it -/
def KS (G : GI) (ρ : List Addr) (H : Hp) (r : SR) (D : Ends) (W : WX) : Prop := match r with
  | .nx m' S' => ∀ ρ' H' σ', Le ρ H ρ' H' → Rel G ρ' S' H' → SRel G ρ' H' m' σ' → D.nx σ' H'
  | .rt v _ S' => ∀ ρ' H' w, Le ρ H ρ' H' → Rel G ρ' S' H' → VRel G ρ' H' v w → D.rt w H'
  | .exc e m' S' => ∀ ρ' H' σ', Le ρ H ρ' H' → Rel G ρ' S' H' → SRel G ρ' H' m' σ' → exW G W σ' e ρ' H'
  | .stuck => False
def TSt (G : GI) (d : Slots → Store → SR) (W : WX) : TS := fun D σ H => ∃ ρ S m, Rel G ρ S H ∧ SRel G ρ H m σ ∧ KS G ρ H (d m S) D W
section
variable {G : GI} {ρ ρ' : List Addr} {S : Store} {H H' : Hp} {W : WX} {r : SR} {D D' : Ends}
theorem KS.le (h : KS G ρ H r D W) (l : Le ρ H ρ' H') : KS G ρ' H' r D W := by
  cases r with
  | nx m S' => exact fun a b c l2 d e => h a b c (l.trans l2) d e
  | rt v m S' => exact fun a b c l2 d e => h a b c (l.trans l2) d e
  | exc e m S' => exact fun a b c l2 d e => h a b c (l.trans l2) d e
  | stuck => exact h
/-- an expression, then a statement: m the slots as they stand -/
theorem KS.expr {α β : Type} {R : List Addr → Hp → α → β → Prop} {o : Out α} {m : Slots} {σ : L2.St} {f : α → Store → SR} (h : KS G ρ H (thenS o m f) D W) (R0 : Rel G ρ S H) (sr : SRel G ρ H m σ) :
    K1 G ρ H o R (fun w H1 => ∃ ρ1 S1 v, Le ρ H ρ1 H1 ∧ Rel G ρ1 S1 H1 ∧ SRel G ρ1 H1 m σ ∧ R ρ1 H1 v w ∧ KS G ρ1 H1 (f v S1) D W) (exW G W σ) := by
  cases o with
  | ok v S1 => exact fun ρ1 H1 w l r hv => ⟨ρ1, S1, v, l, r, sr.le R0 l, hv, KS.le h l⟩
  | exc e S1 => exact fun ρ1 H1 l r => h ρ1 H1 σ l r (sr.le R0 l)
  | stuck => exact h
/-- one statement, then another -/
theorem KS.andThen {f : Slots → Store → SR} (h : KS G ρ H (r.andThen f) D W) : KS G ρ H r { D with nx := fun σ1 H1 => ∃ ρ1 S1 m1, Le ρ H ρ1 H1 ∧ Rel G ρ1 S1 H1 ∧ SRel G ρ1 H1 m1 σ1 ∧ KS G ρ1 H1 (f m1 S1) D W } W := by
  cases r with
  | nx m S' => exact fun a b c l d e => ⟨a, S', m, l, d, e, KS.le h l⟩
  | rt v m S' => exact h
  | exc e m S' => exact h
  | stuck => exact h
theorem KS.ends (h : KS G ρ H r D W) (h1 : ∀ σ H, D.nx σ H → D'.nx σ H) (h2 : ∀ w H, D.rt w H → D'.rt w H) : KS G ρ H r D' W := by
  cases r with
  | nx m S' => exact fun a b c l d e => h1 _ _ (h a b c l d e)
  | rt v m S' => exact fun a b c l d e => h2 _ _ (h a b c l d e)
  | exc e m S' => exact h
  | stuck => exact h
end
section
variable {X : Cx} {G : GI} {W : WX} {a c : Expr} {st : Stmt} {sts : List Stmt} {da db : Slots → Store → Out MV} {d dB dC : Slots → Store → SR} {pos : Pos}
theorem js_skip (e : ∀ m S, d m S = .nx m S) : PSs X [] (TSt G d W) := pss_nil.imp fun D σ H ⟨ρ, S, m, R, sr, k⟩ => by
  rw [e] at k
  exact k ρ H σ (Le.refl _ _) R sr
theorem js_pass (e : ∀ m S, d m S = .nx m S) : PS X (.Pass pos) (TSt G d W) := ps_pass.imp fun D σ H ⟨ρ, S, m, R, sr, k⟩ => by
  rw [e] at k
  exact k ρ H σ (Le.refl _ _) R sr
theorem js_doc {x : Str} {j : Nat} {pos' : Pos} (e : ∀ m S, d m S = .nx m S) : PS X (.Expr (.Constant (.str x) j pos) pos') (TSt G d W) := ps_doc.imp fun D σ H ⟨ρ, S, m, R, sr, k⟩ => by
  rw [e] at k
  exact k ρ H σ (Le.refl _ _) R sr
theorem js_seq (h1 : PS X st (TSt G dB W)) (h2 : PSs X sts (TSt G dC W)) (e : ∀ m S, d m S = (dB m S).andThen dC) : PSs X (st :: sts) (TSt G d W) :=
  (pss_cons h1 h2).imp fun D σ H ⟨ρ, S, m, R, sr, k⟩ => by
    rw [e] at k
    refine ⟨ρ, S, m, R, sr, k.andThen.ends (fun σ1 H1 ⟨ρ1, S1, m1, l, r, s1, k1⟩ => ⟨ρ1, S1, m1, r, s1, k1⟩) fun _ _ h => h⟩
theorem js_one (h1 : PS X st (TSt G dB W)) (e : ∀ m S, d m S = dB m S) : PSs X [st] (TSt G d W) :=
  (pss_one h1).imp fun D σ H ⟨ρ, S, m, R, sr, k⟩ => ⟨ρ, S, m, R, sr, by rw [← e]; exact k⟩
theorem js_expr (ha : PE X a (T G da W)) (hs : swapsWith a none pos.line X.env = pure false) (e : ∀ m S, d m S = thenS (da m S) m fun _ S1 => .nx m S1) : PS X (.Expr a pos) (TSt G d W) :=
  (ps_expr ha hs).imp fun D σ H ⟨ρ, S, m, R, sr, k⟩ => by
    rw [e] at k
    exact ⟨ρ, S, m, R, sr, (KS.expr (R := RV G) k R sr).mono fun w H1 ⟨ρ1, S1, v, l, r, s1, hv, k1⟩ => k1 ρ1 H1 σ (Le.refl _ _) r s1⟩
theorem js_ret (ha : PE X a (T G da W)) (e : ∀ m S, d m S = thenS (da m S) m fun v S1 => .rt v m S1) : PS X (.Return (some a) pos) (TSt G d W) :=
  (ps_ret ha).imp fun D σ H ⟨ρ, S, m, R, sr, k⟩ => by
    rw [e] at k
    exact ⟨ρ, S, m, R, sr, (KS.expr (R := RV G) k R sr).mono fun w H1 ⟨ρ1, S1, v, l, r, s1, hv, k1⟩ => k1 ρ1 H1 w (Le.refl _ _) r hv⟩
theorem js_retn (e : ∀ m S, d m S = .rt .non m S) : PS X (.Return none pos) (TSt G d W) :=
  ps_retN.imp fun D σ H ⟨ρ, S, m, R, sr, k⟩ => by
    rw [e] at k
    exact k ρ H .non (Le.refl _ _) R rfl
theorem js_if {b1 b2 : List Stmt} (hc : PT X c (Tb G da W)) (h1 : PSs X b1 (TSt G dB W)) (h2 : PSs X b2 (TSt G dC W)) (e : ∀ m S, d m S = thenS (da m S) m fun v S1 => match truth v S1 with
    | some true => dB m S1
    | some false => dC m S1
    | none => .stuck) : PS X (.If c b1 b2 pos) (TSt G d W) :=
  (ps_if hc h1 h2).imp fun D σ H ⟨ρ, S, m, R, sr, k⟩ => by
    rw [e] at k
    refine ⟨ρ, S, m, R, sr, ?_⟩
    have e2 : KS G ρ H (thenS (tst da m S) m fun b S1 => if b = true then dB m S1 else dC m S1) D W := by
      unfold tst
      cases q : da m S with
      | stuck => rw [q] at k; exact k
      | exc x S1 => rw [q] at k; exact k
      | ok v S1 =>
        rw [q] at k
        simp only [thenS_ok, Out.bind_ok] at k ⊢
        split at k
        · rename_i e1; rw [e1]; exact k
        · rename_i e1; rw [e1]; exact k
        · exact k.elim
    refine (KS.expr (R := fun _ _ (b c : Bool) => b = c) e2 R sr).mono fun w H1 ⟨ρ1, S1, v, l, r, s1, hv, k1⟩ => ?_
    subst hv
    cases v
    · exact iteF ⟨ρ1, S1, m, r, s1, k1⟩
    · exact iteT ⟨ρ1, S1, m, r, s1, k1⟩
/-! ### targets -/
def TGt (G : GI) (d : MV → Slots → Store → SR) (W : WX) : TG := fun v σ H Q => ∃ ρ S m mv D, Rel G ρ S H ∧ SRel G ρ H m σ ∧ VRel G ρ H mv v ∧ KS G ρ H (d mv m S) D W ∧ ∀ σ' H', D.nx σ' H' → Q σ' H'
def TGts (G : GI) (d : List MV → Slots → Store → SR) (W : WX) : TGs := fun v σ H Q => ∃ ρ S m mv D, Rel G ρ S H ∧ SRel G ρ H m σ ∧ VRels G ρ H mv v ∧ KS G ρ H (d mv m S) D W ∧ ∀ σ' H', D.nx σ' H' → Q σ' H'
theorem _root_.L2.PG.imp {tg : Expr} {t t' : TG} (h : PG X tg t) (i : ∀ v σ H Q, t' v σ H Q → t v σ H Q) : PG X tg t' := ⟨fun p s σ H v u Q I r q => h.run p s σ H v u Q I r (i v σ H Q q)⟩
theorem _root_.L2.PGs.imp {tg : List Expr} {t t' : TGs} (h : PGs X tg t) (i : ∀ v σ H Q, t' v σ H Q → t v σ H Q) : PGs X tg t' := ⟨fun p s σ H v u Q I r q => h.run p s σ H v u Q I r (i v σ H Q q)⟩
theorem jg_nm {dG : MV → Slots → Store → SR} {i : Nat} {x : Str} (hN : X.N.Nodup) (hi : X.N[i]? = some x) (hx : Loc X.env.scope x) (hf : X.fn x = true ∨ X.env.scope.names.lookup x = some .local) (e : ∀ v m S, dG v m S = .nx (m.set i (some v)) S) : PG X (.Name x pos) (TGt G dG W) :=
  (pg_name hN hi hx hf).imp fun v σ H Q ⟨ρ, S, m, mv, D, R, sr, hv, k, kq⟩ => by
    rw [e] at k
    exact kq _ _ (k ρ H _ (Le.refl _ _) R (sr.set hv i))
theorem jgs_nil {dG : List MV → Slots → Store → SR} (e : ∀ m S, dG [] m S = .nx m S) (e2 : ∀ x xs m S, dG (x :: xs) m S = .stuck) : PGs X [] (TGts G dG W) :=
  pgs_nil.imp fun v σ H Q ⟨ρ, S, m, mv, D, R, sr, hv, k, kq⟩ => by
    cases mv with
    | nil =>
      rw [e] at k
      cases hv
      exact ⟨rfl, kq _ _ (k ρ H _ (Le.refl _ _) R sr)⟩
    | cons x xs =>
      rw [e2] at k
      exact k.elim
theorem jgs_cons {tg : Expr} {tgs : List Expr} {dG : List MV → Slots → Store → SR} {d1 : MV → Slots → Store → SR} {d2 : List MV → Slots → Store → SR} (h1 : PG X tg (TGt G d1 W)) (h2 : PGs X tgs (TGts G d2 W)) (hs : (assignEach (tg :: tgs) X.env).map (·.2) = assign tg X.env :: (assignEach tgs X.env).map (·.2))
    (e : ∀ x xs m S, dG (x :: xs) m S = (d1 x m S).andThen fun m1 S1 => d2 xs m1 S1) (e2 : ∀ m S, dG [] m S = .stuck) : PGs X (tg :: tgs) (TGts G dG W) :=
  (pgs_cons h1 h2 hs).imp fun v σ H Q ⟨ρ, S, m, mv, D, R, sr, hv, k, kq⟩ => by
    cases mv with
    | nil => rw [e2] at k; exact k.elim
    | cons x xs =>
      rw [e] at k
      obtain ⟨w, r, rfl, hw, hr⟩ := hv
      exact ⟨w, r, rfl, ρ, S, m, x, _, R, sr, hw, k.andThen, fun σ1 H1 ⟨ρ1, S1, m1, l, r1, s1, k1⟩ => ⟨ρ1, S1, m1, xs, D, r1, s1, hr.le R l, k1, kq⟩⟩
theorem jg_tup {k0 : Nat} {tgs : List Expr} {dG : MV → Slots → Store → SR} {dL : List MV → Slots → Store → SR} {n : Nat} (hK : X.K = G.K) (hc : X.calm = true) (h : PGs X tgs (TGts G dL W)) (hn : (assignEach tgs X.env).length = n) (hst : (assignEach tgs X.env).findIdx? (·.1) = none)
    (hl : ∀ xs m S, xs.length ≠ n → dL xs m S = .stuck) (e : ∀ xs m S, dG (.tup xs) m S = dL xs m S) (e2 : ∀ v m S, (∀ xs, v ≠ .tup xs) → dG v m S = .stuck) : PG X (.Tuple tgs k0 pos) (TGt G dG W) :=
  (pg_tup hc h hn hst).imp fun v σ H Q ⟨ρ, S, m, mv, D, R, sr, hv, k, kq⟩ => by
    by_cases q : ∃ xs, mv = .tup xs
    · obtain ⟨xs, rfl⟩ := q
      rw [e] at k
      obtain ⟨p, vs, rfl, hp, hs⟩ := hv
      refine ⟨p, vs, rfl, by rw [hK]; exact hp, ?_, ρ, S, m, xs, D, R, sr, hs, k, kq⟩
      by_cases hl' : xs.length = n
      · rw [← hs.length]; exact hl'
      · rw [hl xs m S hl'] at k; exact k.elim
    · rw [e2 mv m S fun xs z => q ⟨xs, z⟩] at k
      exact k.elim
/-- no slice -/
def plainIxS : Expr → Bool
  | .Slice _ _ _ _ => false
  | _ => true
/-- o[i] = v -/
def rSet0 (G : GI) : TSet := fun o i v H Q => ∃ ρ S mo mi mv, Rel G ρ S H ∧ VRel G ρ H mo o ∧ VRel G ρ H mi i ∧ VRel G ρ H mv v ∧ ∃ S1, setItemV mo mi mv S = some S1 ∧ ∀ ρ' H', Le ρ H ρ' H' → Rel G ρ' S1 H' → Q H'
theorem set_ok : PSet X (rSet0 G) := by
  intro pins s σ H o i v ov iv u Q I ro ri rv ⟨ρ, S, mo, mi, mv, R, ho, hi, hv, S1, e, q⟩
  unfold setItemV at e
  split at e
  · rename_i r k
    split at e
    · rename_i xs e2
      rw [Option.map_eq_some_iff] at e
      obtain ⟨j, e3, rfl⟩ := e
      cases hi
      obtain ⟨p, rfl, hp, u', hu, vs, rfl, c⟩ := R.ref e2 ho
      obtain ⟨R', l⟩ := R.set (o' := .lst (xs.set j mv)) hp e2 rfl ⟨_, rfl, VRels.set hv j c⟩
      exact set_list pins s σ H _ _ v ov iv u Q I ro ri rv ⟨p, vs, k, j, rfl, rfl, hu, by rw [← c.length]; exact e3, q _ _ l R'⟩
    · cases e
  · cases e
theorem jg_sub {o i : Expr} {dG : MV → Slots → Store → SR} (ho : PE X o (T G da W)) (hi : PE X i (T G db W)) (hpl : plainIxS i = true)
    (e : ∀ v m S, dG v m S = thenS (da m S) m fun x S1 => thenS (db m S1) m fun y S2 => nxO m (setItemV x y v S2)) : PG X (.Subscript o i pos) (TGt G dG W) :=
  (pg_sub ho hi set_ok (fun v => by cases i <;> first | rfl | cases hpl)).imp fun v σ H Q ⟨ρ, S, m, mv, D, R, sr, hv, k, kq⟩ => by
    rw [e] at k
    refine ⟨ρ, S, m, R, sr, (KS.expr (R := RV G) k R sr).mono fun w H1 ⟨ρ1, S1, x, l1, r1, s1, hx, k1⟩ => ?_⟩
    refine ⟨ρ1, S1, m, r1, s1, (KS.expr (R := RV G) k1 r1 s1).mono fun w2 H2 ⟨ρ2, S2, y, l2, r2, s2, hy, k2⟩ => ?_⟩
    cases q : setItemV x y mv S2 with
    | none => rw [q] at k2; exact k2.elim
    | some S3 =>
      rw [q] at k2
      exact ⟨ρ2, S2, x, y, mv, r2, hx.le r1 l2, hy, (hv.le R l1).le r1 l2, S3, q, fun ρ' H' l r => kq _ _ (k2 ρ' H' σ l r (s2.le r2 l))⟩
theorem js_asg {tg : Expr} {dT : MV → Slots → Store → SR} (ha : PE X a (T G da W)) (hg : PG X tg (TGt G dT W)) (hs : swapsWithSole [tg] a pos.line X.env = pure false) (hw : swappedStores [tg] a X.env = pure none)
    (h1 : (assignEach [tg] X.env).map (·.2) = [assign tg X.env]) (e : ∀ m S, d m S = thenS (da m S) m fun v S1 => dT v m S1) : PS X (.Assign [tg] a pos) (TSt G d W) :=
  (ps_asg ha hg hs hw h1).imp fun D σ H ⟨ρ, S, m, R, sr, k⟩ => by
    rw [e] at k
    exact ⟨ρ, S, m, R, sr, (KS.expr (R := RV G) k R sr).mono fun w H1 ⟨ρ1, S1, v, l, r, s1, hv, k1⟩ => ⟨ρ1, S1, m, v, D, r, s1, hv, k1, fun _ _ h => h⟩⟩
theorem js_asg2 {t1 t2 : Expr} {d1 d2 : MV → Slots → Store → SR} (ha : PE X a (T G da W)) (hg1 : PG X t1 (TGt G d1 W)) (hg2 : PG X t2 (TGt G d2 W)) (h1 : (assignEach [t1, t2] X.env).map (·.2) = [assign t1 X.env, assign t2 X.env])
    (hw : swappedStores [t1, t2] a X.env = pure none) (e : ∀ m S, d m S = thenS (da m S) m fun v S1 => (d1 v m S1).andThen fun m1 S2 => d2 v m1 S2) : PS X (.Assign [t1, t2] a pos) (TSt G d W) :=
  (ps_asg2 ha hg1 hg2 h1 hw).imp fun D σ H ⟨ρ, S, m, R, sr, k⟩ => by
    rw [e] at k
    refine ⟨ρ, S, m, R, sr, (KS.expr (R := RV G) k R sr).mono fun w H1 ⟨ρ1, S1, v, l, r, s1, hv, k1⟩ => ⟨ρ1, S1, m, v, _, r, s1, hv, k1.andThen, fun σ2 H2 ⟨ρ2, S2, m2, l2, r2, s2, k2⟩ => ?_⟩⟩
    exact ⟨ρ2, S2, m2, v, D, r2, s2, hv.le r l2, k2, fun _ _ h => h⟩
end
end FE
/-! FEn: fields, pairs, sums, loops. -/
namespace FE
open PySem L2 PySem.Spec

section
variable {X : Cx} {G : GI} {Γ : Prog} {W : WX} {a b c : Expr} {da db dc : Slots → Store → Out MV} {d dB : Slots → Store → SR} {pos : Pos}
/-- what is never reached may be anything -/
theorem je_stuck {e : Expr} (h : ∀ m S, da m S = .stuck) : PE X e (T G da W) := ⟨fun p s σ H Q I ⟨ρ, S, m, R, sr, k⟩ => by rw [h] at k; exact k.elim⟩
theorem jt_stuck {e : Expr} (h : ∀ m S, da m S = .stuck) : PT X e (Tb G da W) := ⟨fun p s σ H Q I ⟨ρ, S, m, R, sr, k⟩ => by unfold tst at k; rw [h] at k; exact k.elim⟩
theorem js_stuck {st : Stmt} (h : ∀ m S, d m S = .stuck) : PS X st (TSt G d W) := ⟨fun p s σ H D I ⟨ρ, S, m, R, sr, k⟩ => by rw [h] at k; exact k.elim⟩
theorem KS.opt {α : Type} {ρ : List Addr} {H : Hp} {o : Option α} {f : α → SR} {D : Ends} (k : KS G ρ H (someS o f) D W) : ∃ x, o = some x ∧ KS G ρ H (f x) D W := by
  cases o with
  | none => exact k.elim
  | some x => exact ⟨x, rfl, k⟩
theorem KS.put {ρ : List Addr} {H : Hp} {m : Slots} {o : Option Store} {D : Ends} (k : KS G ρ H (nxO m o) D W) : ∃ S, o = some S ∧ KS G ρ H (.nx m S) D W := by
  cases o with
  | none => exact k.elim
  | some x => exact ⟨x, rfl, k⟩
/-- a field's new value -/
theorem attr_at (hcl : ClssK G Γ X.K) {ρ : List Addr} {S S1 : Store} {H : Hp} {x v : MV} {w y : V} {f : Nat} (R : Rel G ρ S H) (hx : VRel G ρ H x w) (hv : VRel G ρ H v y) (e : setAttrV Γ x f v S = some S1) :
    ∃ a C dx fs, w = .ref a ∧ H a = some (.ins C dx fs) ∧ Cls X.K C ∧ NoAttr X.K C (G.nm f) ∧ fs.length < 1000 ∧ Rel G ρ S1 (upd H a (.ins C dx (putF (G.nm f) y fs))) ∧ Le ρ H ρ (upd H a (.ins C dx (putF (G.nm f) y fs))) := by
  unfold setAttrV at e
  split at e
  · rename_i r
    split at e
    · rename_i c fs e2
      split at e
      · rename_i cd e3
        split at e
        · rename_i hf
          cases e
          obtain ⟨p, rfl, hp, u, hu, dx, gs, rfl, cr⟩ := R.ref e2 hx
          have C := hcl c cd e3
          obtain ⟨R', l⟩ := R.set (o' := .ins c (putM f v fs)) (u := .ins (G.ad c) dx (putF (G.nm f) y gs)) hp e2 rfl ⟨dx, _, rfl, frel_put hv cr⟩
          exact ⟨p, G.ad c, dx, gs, rfl, hu, C.cl, C.no f (List.contains_iff_mem.mp hf.1), by rw [← FRel.length cr]; omega, R', l⟩
        · cases e
      · cases e
    · cases e
  · cases e
theorem attr_get (hcl : ClssK G Γ X.K) {ρ : List Addr} {S : Store} {H : Hp} {x v : MV} {w : V} {f : Nat} (R : Rel G ρ S H) (hx : VRel G ρ H x w) (e : attrV Γ x f S = some v) :
    ∃ a C dx fs y, w = .ref a ∧ H a = some (.ins C dx fs) ∧ Cls X.K C ∧ NoAttr X.K C (G.nm f) ∧ fs.lookup (G.nm f) = some y ∧ VRel G ρ H v y := by
  unfold attrV at e
  split at e
  · rename_i i
    split at e
    · rename_i c fs e2
      split at e
      · rename_i cd e3
        split at e
        · rename_i hf
          obtain ⟨p, rfl, _, u, hu, dx, gs, rfl, cr⟩ := R.ref e2 hx
          have C := hcl c cd e3
          rcases frel_look (f := f) cr with ⟨q1, _⟩ | ⟨z, y, q1, q2, q3⟩
          · rw [q1] at e; cases e
          · rw [q1] at e
            cases e
            exact ⟨p, G.ad c, dx, gs, y, rfl, hu, C.cl, C.no f (List.contains_iff_mem.mp hf), q2, q3⟩
        · cases e
      · cases e
    · cases e
  · cases e
theorem ins_cls {ρ ρ' : List Addr} {S S' S3 : Store} {H H' : Hp} {x v : MV} {p C C' : Addr} {dx dx' : Addr} {fs fs' : List (Str × V)} {f : Nat} (R : Rel G ρ S H) (R' : Rel G ρ' S' H') (hx : VRel G ρ H x (.ref p)) (hx' : VRel G ρ' H' x (.ref p))
    (h : H p = some (.ins C dx fs)) (h' : H' p = some (.ins C' dx' fs')) (e : insCl x S = insCl x S') (e3 : setAttrV Γ x f v S' = some S3) : C' = C := by
  unfold setAttrV at e3
  split at e3
  · rename_i r
    split at e3
    · rename_i c gs e2
      have e4 : insCl (.ref r) S' = some c := by simp only [insCl, e2]
      rw [e4] at e
      obtain ⟨q, eq, _, u, hu, d1, g1, rfl, _⟩ := R'.ref e2 hx'
      cases eq
      rw [h'] at hu
      cases hu
      unfold insCl at e
      simp only at e
      split at e
      · rename_i c2 gs2 e5
        cases e
        obtain ⟨q, eq, _, u, hu, d2, g2, rfl, _⟩ := R.ref e5 hx
        cases eq
        rw [h] at hu
        cases hu
        rfl
      · cases e
    · cases e3
  · cases e3
theorem js_fld {o : Expr} {f : Nat} {p : Pos} (hcl : ClssK G Γ X.K) (ho : PE X o (T G db W)) (ha : PE X a (T G da W)) (hs : swapsWith a (some (.Attribute o (G.nm f) p)) pos.line X.env = pure false)
    (e : ∀ m S, d m S = thenS (da m S) m fun v S1 => thenS (db m S1) m fun x S2 => nxO m (setAttrV Γ x f v S2)) : PS X (.Assign [.Attribute o (G.nm f) p] a pos) (TSt G d W) :=
  (ps_fld ho ha hs).imp fun D σ H ⟨ρ, S, m, R, sr, k⟩ => by
    rw [e] at k
    refine ⟨ρ, S, m, R, sr, (KS.expr (R := RV G) k R sr).mono fun y H1 ⟨ρ1, S1, v, l, r, s1, hv, k1⟩ => ⟨ρ1, S1, m, r, s1, (KS.expr (R := RV G) k1 r s1).mono fun w H2 ⟨ρ2, S2, x, l2, r2, s2, hx, k2⟩ => ?_⟩⟩
    obtain ⟨S3, e1, k3⟩ := k2.put
    obtain ⟨p, C, dx, fs, rfl, hu, h1, h2, h3, R3, l3⟩ := attr_at hcl r2 hx (hv.le r l2) e1
    exact ⟨p, C, dx, fs, rfl, hu, h1, h2, h3, k3 ρ2 _ σ l3 R3 (s2.le r2 l3)⟩
theorem js_par {i j : Nat} {x y : Str} {px py pt pt2 : Pos} {kt k2 : Nat} {dA : Slots → Store → Out (List MV)} (hc : X.calm = true) (hN : X.N.Nodup) (hi : X.N[i]? = some x) (hj : X.N[j]? = some y) (hij : i ≠ j)
    (hx : X.env.scope.names.lookup x = some .local) (hy : X.env.scope.names.lookup y = some .local) (ha : PA X [a, b] (TAs G dA W)) (ea : ∀ m S, dA m S = (da m S).bind fun v S1 => (db m S1).bind fun w S2 => .ok [v, w] S2)
    (hw : swappedStores [.Tuple [.Name x px, .Name y py] kt pt] (.Tuple [a, b] k2 pt2) X.env = pure (some [x, y]))
    (e : ∀ m S, d m S = thenS (da m S) m fun v S1 => thenS (db m S1) m fun w S2 => .nx ((m.set i (some v)).set j (some w)) S2) :
    PS X (.Assign [.Tuple [.Name x px, .Name y py] kt pt] (.Tuple [a, b] k2 pt2) pos) (TSt G d W) :=
  (ps_par hc hN hi hj hij hx hy ha hw).imp fun D σ H ⟨ρ, S, m, R, sr, k⟩ => by
    have k' : KS G ρ H (thenS (dA m S) m fun vs S2 => match vs with
        | [v, w] => .nx ((m.set i (some v)).set j (some w)) S2
        | _ => .stuck) D W := by
      rw [e] at k
      rw [ea]
      cases q : da m S with
      | stuck => rw [q] at k; exact k
      | exc x S1 => rw [q] at k; exact k
      | ok v S1 =>
        rw [q] at k
        simp only [thenS_ok, Out.bind_ok] at k ⊢
        cases q2 : db m S1 with
        | stuck => rw [q2] at k; exact k
        | exc x S1 => rw [q2] at k; exact k
        | ok w S2 => rw [q2] at k; exact k
    refine ⟨ρ, S, m, R, sr, (KS.expr (R := RVs G) k' R sr).mono fun vs H1 ⟨ρ1, S1, us, l, r, s1, hv, k1⟩ => ?_⟩
    split at k1
    · rename_i v w
      obtain ⟨v', w', rfl, h1, h2⟩ := hv.inv2
      exact ⟨v', w', rfl, k1 ρ1 H1 _ (Le.refl _ _) r ((s1.set h1 i).set h2 j)⟩
    · exact k1.elim
/-- name += value -/
theorem js_aug {i : Nat} {x : Str} {pos' : Pos} (hN : X.N.Nodup) (hi : X.N[i]? = some x) (hx : Loc X.env.scope x) (hf : X.fn x = true ∨ X.env.scope.names.lookup x = some .local) (ha : PE X a (T G da W))
    (e : ∀ m S, d m S = someS ((m[i]?).bind id) fun x => thenS (da m S) m fun y S1 => someS (incO x y) fun z => .nx (m.set i (some z)) S1) : PS X (.AugAssign (.Name x pos') .Add a pos) (TSt G d W) :=
  (ps_aug hN hi hx ha ip_add hf).imp fun D σ H ⟨ρ, S, m, R, sr, k⟩ => by
    rw [e] at k
    obtain ⟨v, e1, k⟩ := k.opt
    have e2 : m[i]? = some (some v) := by
      cases q : m[i]? with
      | none => rw [q] at e1; cases e1
      | some z => rw [q] at e1; exact congrArg some e1
    obtain ⟨w, e3, hw⟩ := sr.get i v e2
    refine ⟨w, e3, ρ, S, m, R, sr, (KS.expr (R := RV G) k R sr).mono fun y H1 ⟨ρ1, S1, u, l, r, s1, hu, k1⟩ => ?_⟩
    obtain ⟨z, e4, k2⟩ := k1.opt
    obtain ⟨p, q, rfl, rfl, rfl⟩ := inc_of e4
    cases hw
    cases hu
    exact ⟨p, q, rfl, rfl, k2 ρ1 H1 _ (Le.refl _ _) r (s1.set (v := .int (p + q)) (w := .int (p + q)) rfl i)⟩
/-- o.f += value -/
theorem js_augf {o : Expr} {f : Nat} {p : Pos} (hcl : ClssK G Γ X.K) (ho : PE X o (T G db W)) (ha : PE X a (T G da W))
    (e : ∀ m S, d m S = thenS (db m S) m fun x S1 => someS (attrV Γ x f S1) fun v => thenS (da m S1) m fun y S2 => if insCl x S1 = insCl x S2 then someS (incO v y) fun z => nxO m (setAttrV Γ x f z S2) else .stuck) : PS X (.AugAssign (.Attribute o (G.nm f) p) .Add a pos) (TSt G d W) :=
  (ps_fldaug ho ha in_add).imp fun D σ H ⟨ρ, S, m, R, sr, k⟩ => by
    rw [e] at k
    refine ⟨ρ, S, m, R, sr, (KS.expr (R := RV G) k R sr).mono fun xx H1 ⟨ρ1, S1, x, l, r, s1, hx, k1⟩ => ?_⟩
    obtain ⟨v, e1, k1⟩ := k1.opt
    obtain ⟨p, C, dx, fs, y, rfl, hu, h1, h2, h3, hv⟩ := attr_get hcl r hx e1
    refine ⟨p, C, dx, fs, y, rfl, hu, h1, h2, h3, ρ1, S1, m, r, s1, (KS.expr (R := RV G) k1 r s1).mono fun w H2 ⟨ρ2, S2, u, l2, r2, s2, hw, k2⟩ => ?_⟩
    split at k2
    · rename_i ec
      obtain ⟨z, e2, k3⟩ := k2.opt
      obtain ⟨S3, e3, k3⟩ := k3.put
      obtain ⟨i, j, rfl, rfl, rfl⟩ := inc_of e2
      cases hv
      cases hw
      obtain ⟨p', C', dx', fs', ep, hu', _, h2', h3', R3, l3⟩ := attr_at (v := .int (i + j)) (y := .int (i + j)) hcl r2 (hx.le r l2) rfl e3
      cases ep
      have hC : C' = C := ins_cls r r2 hx (hx.le r l2) hu hu' ec e3
      subst hC
      exact ⟨i, j, rfl, rfl, dx', fs', hu', h3', by rw [e3] at k3; exact k3 ρ2 _ σ l3 R3 (s2.le r2 l3)⟩
    · exact k2.elim
/-- o[i] += value -/
theorem js_augs {o i : Expr} {p : Pos} (hK : X.K = G.K) (get_ok : PGet X (rOp0 G fun x y S => oneO (ixV x y S) S)) (ho : PE X o (T G da W)) (hi : PE X i (T G db W)) (ha : PE X a (T G dc W)) (hst : ∀ ov iv new, augStore i ov iv new = (do holding [new, ov, iv] (setItem ov iv new); release [new, ov, iv] []; pure .next))
    (e : ∀ m S, d m S = thenS (da m S) m fun x S1 => thenS (db m S1) m fun k S2 => someS (ixV x k S2) fun v => thenS (dc m S2) m fun y S3 => someS (incO v y) fun z => nxO m (setItemV x k z S3)) : PS X (.AugAssign (.Subscript o i p) .Add a pos) (TSt G d W) :=
  (ps_augS ho hi get_ok ha ip_add set_ok hst).imp fun D σ H ⟨ρ, S, m, R, sr, k⟩ => by
    rw [e] at k
    refine ⟨ρ, S, m, R, sr, (KS.expr (R := RV G) k R sr).mono fun w1 H1 ⟨ρ1, S1, x, l1, r1, s1, hx, k1⟩ => ?_⟩
    refine ⟨ρ1, S1, m, r1, s1, (KS.expr (R := RV G) k1 r1 s1).mono fun w2 H2 ⟨ρ2, S2, kk, l2, r2, s2, hk, k2⟩ => ?_⟩
    obtain ⟨v, e1, k2⟩ := k2.opt
    refine ⟨ρ2, S2, x, kk, r2, hx.le r1 l2, hk, ?_⟩
    show K1 G ρ2 H2 (oneO (ixV x kk S2) S2) _ _ _
    rw [e1]
    intro ρ3 H3 w3 l3 r3 hv
    refine ⟨ρ3, S2, m, r3, s2.le r2 l3, (KS.expr (R := RV G) (k2.le l3) r3 (s2.le r2 l3)).mono fun w4 H4 ⟨ρ4, S4, y, l4, r4, s4, hy, k4⟩ => ?_⟩
    obtain ⟨z, e2, k4⟩ := k4.opt
    obtain ⟨S5, e3, k5⟩ := k4.put
    obtain ⟨i, j, rfl, rfl, rfl⟩ := inc_of e2
    cases hv
    cases hy
    exact ⟨i, j, rfl, rfl, ρ4, S4, x, kk, .int (i + j), r4, ((hx.le r1 l2).le r2 l3).le r3 l4, (hk.le r2 l3).le r3 l4, rfl, S5, e3, fun ρ' H' l r => k5 ρ' H' σ l r (s4.le r4 l)⟩
/-- a comprehension put into a local name -/
theorem js_setComp {i : Nat} {y : Str} {py : Pos} {elt tg iter : Expr} {ifs : List Expr} {scope : Scope} {own : List (Str × Nat)} {pos spos : Pos} {t : NT} {dI : Slots → Store → Out IT} {dT de : Slots → Store → Out MV} (hK : X.K = G.K)
    (hown : ∀ i ∈ ntNames t, i ∈ own.map (·.2)) (hc : X.calm = true) (hN : X.N.Nodup) (hy : X.N[i]? = some y) (hyl : X.env.scope.names.lookup y = some .local) (hfn : X.env.scope.kind = .function) (hl : (py.line == pos.line) = true)
    (hsn : (scope.names.any fun (n, k) => n == y && (k == .local || k == .cell)) = false) (hi : PI X tg iter (TI0 G dI W)) (ok : BlkOk X.N X.env.scope scope own)
    (hg : ∀ (s : Shared) (H : Hp) (C : Addr) (cl : List (Str × Addr)) (fp : List Addr), PG (X.blk s H scope (compEnvC scope cl C X.env) fp) tg (gN X.K t))
    (ht : ∀ (s : Shared) (H : Hp) (C : Addr) (cl : List (Str × Addr)) (fp : List Addr), PTs (X.blk s H scope (compEnvC scope cl C X.env) fp) ifs (Tb G dT WF))
    (he : ∀ (s : Shared) (H : Hp) (C : Addr) (cl : List (Str × Addr)) (fp : List Addr), PE (X.blk s H scope (compEnvC scope cl C X.env) fp) elt (T G de WF)) (hs : ∀ x, foldedSetIterable iter X.env x = pure x)
    (e1 : ∀ m S, da m S = (dI m S).bind fun I S1 => (compGo t dT de I (wipeM m (own.map (·.2))) I.count 0 [] S1).bind fun xs S2 => new S2 (.lst xs)) (e : ∀ m S, d m S = thenS (da m S) m fun v S1 => .nx (m.set i (some v)) S1) :
    PS X (.Assign [.Name y py] (.ListComp elt [⟨tg, iter, ifs, 0⟩] scope pos) spos) (TSt G d W) :=
  (ps_setLc hc hN hy hyl (sw_true hfn hyl hl hsn) hi ok hg ht he hs).imp fun D σ H ⟨ρ, S, m, R, sr, k⟩ => by
    rw [e] at k
    refine comp_lc hK hown e1 ⟨ρ, S, m, R, sr, (KS.expr (R := RV G) k R sr).mono fun w H1 ⟨ρ1, S1, v, l, r, s1, hv, k1⟩ => ?_⟩
    exact k1 ρ1 H1 _ (Le.refl _ _) r (s1.set hv i)
/-- a walk -/
theorem js_for {tg it : Expr} {body : List Stmt} {t : NT} {dI : Slots → Store → Out IT} (hK : X.K = G.K) (hp : PassesOwn (model X.prog X.w) X.A X.env X.xe) (hc : X.calm = true) (hi : PI X tg it (TI0 G dI W)) (hg : PG X tg (gN X.K t)) (hb : PSs X body (TSt G dB W))
    (hs : ∀ x, foldedSetIterable it X.env x = pure x) (e : ∀ m S, d m S = thenS (dI m S) m fun I S1 => forGo t dB I I.count 0 m S1) : PS X (.For tg it body [] pos) (TSt G d W) :=
  (ps_for hp hc hi hg hb hs).imp fun D σ H ⟨ρ, S, m, R, sr, k⟩ => by
    rw [e] at k
    refine ⟨ρ, S, m, R, sr, (KS.expr (R := ItOk G) k R sr).mono fun J H1 ⟨ρ1, S1, I, l1, r1, s1, hJ, k1⟩ => ?_⟩
    refine ⟨fun i r σ' Hc => ∃ ρc Sc mc, i + r = I.count ∧ Le ρ1 H1 ρc Hc ∧ Rel G ρc Sc Hc ∧ SRel G ρc Hc mc σ' ∧ KS G ρc Hc (forGo t dB I r i mc Sc) D W, ⟨I.count, ρ1, S1, m, by omega, Le.refl _ _, r1, s1, k1⟩, ?_⟩
    rintro i r σc Hc ⟨ρc, Sc, mc, hir, lc, rc, sc, kc⟩
    obtain ⟨j1, j2⟩ := hJ ρc Sc Hc lc rc
    cases r with
    | zero =>
      left
      unfold forGo at kc
      split at kc
      · rename_i ho
        have hi0 : i = I.count := by omega
        subst hi0
        exact ⟨j2 ho, kc ρc Hc σc (Le.refl _ _) rc sc⟩
      · exact kc.elim
    | succ r =>
      right
      unfold forGo at kc
      split at kc
      · exact kc.elim
      · rename_i x hx
        split at kc
        · exact kc.elim
        · rename_i m1 hset
          obtain ⟨g1, g2⟩ := j1 i x (by omega) hx
          refine ⟨g1, fun σ2 H2 => ∃ ρ2 S2 m2, Le ρ1 H1 ρ2 H2 ∧ Rel G ρ2 S2 H2 ∧ SRel G ρ2 H2 m2 σ2 ∧ KS G ρ2 H2 (forGo t dB I r (i + 1) m2 S2) D W, fun σ2 H2 ⟨ρ2, S2, m2, l2, r2, s2, k2⟩ => ⟨r, by omega, ρ2, S2, m2, by omega, l2, r2, s2, k2⟩, fun v H2 hy => ?_⟩
          obtain ⟨l2, r2, hv⟩ := g2 v H2 hy
          refine gN_ok hK t hset hv (sc.le rc l2) fun σ2 s2 _ => ⟨ρc, Sc, m1, r2, s2, ?_⟩
          refine (kc.le l2).andThen.ends (fun σ3 H3 ⟨ρ3, S3, m3, l3, r3, s3, k3⟩ => ?_) fun _ _ h => h
          exact ⟨ρ3, S3, m3, (lc.trans l2).trans l3, r3, s3, k3⟩
theorem js_while {body : List Stmt} (hp : PassesOwn (model X.prog X.w) X.A X.env X.xe) (hc : PT X c (Tb G dc W)) (hb : PSs X body (TSt G dB W)) (e : ∀ m S, d m S = whP dc dB m S) : PS X (.While c body [] pos) (TSt G d W) :=
  (ps_while hp hc hb).imp fun D σ H ⟨ρ, S, m, R, sr, k⟩ => by
    rw [e] at k
    unfold whP at k
    split at k
    · rename_i hn
      refine ⟨fun n σ' Hc => ∃ ρc Sc mc, Rel G ρc Sc Hc ∧ SRel G ρc Hc mc σ' ∧ KS G ρc Hc (whN dc dB n mc Sc) D W, ⟨_, ρ, S, m, R, sr, k⟩, ?_⟩
      rintro n σc Hc ⟨ρc, Sc, mc, rc, sc, kc⟩
      cases n with
      | zero => exact kc.elim
      | succ n =>
        unfold whN at kc
        have kc' : KS G ρc Hc (thenS (tst dc mc Sc) mc fun b S1 => if b = true then (dB mc S1).andThen fun σ2 S2 => whN dc dB n σ2 S2 else .nx mc S1) D W := by
          unfold tst
          cases q : dc mc Sc with
          | stuck => rw [q] at kc; exact kc
          | exc x S1 => rw [q] at kc; exact kc
          | ok v S1 =>
            rw [q] at kc
            simp only [thenS_ok, Out.bind_ok] at kc ⊢
            split at kc
            · rename_i e1; rw [e1]; exact kc
            · rename_i e1; rw [e1]; exact kc
            · exact kc.elim
        refine ⟨ρc, Sc, mc, rc, sc, (KS.expr (R := fun _ _ (b c : Bool) => b = c) kc' rc sc).mono fun w H1 ⟨ρ1, S1, v, l, r, s1, hv, k1⟩ => ?_⟩
        subst hv
        cases v
        · rw [if_neg (by decide)]
          exact k1 ρ1 H1 σc (Le.refl _ _) r s1
        · rw [if_pos rfl]
          refine ⟨fun σ2 H2 => ∃ ρ2 S2 m2, Rel G ρ2 S2 H2 ∧ SRel G ρ2 H2 m2 σ2 ∧ KS G ρ2 H2 (whN dc dB n m2 S2) D W, fun σ2 H2 h => ⟨n, by omega, h⟩, ρ1, S1, mc, r, s1, ?_⟩
          rw [if_pos rfl] at k1
          exact k1.andThen.ends (fun σ3 H3 ⟨ρ3, S3, m3, l3, r3, s3, k3⟩ => ⟨ρ3, S3, m3, r3, s3, k3⟩) fun _ _ h => h
    · exact k.elim
end
end FE
/-! FEx: isinstance, displays of dicts. -/
namespace FE
open PySem L2 PySem.Spec

section
variable {X : Cx} {G : GI} {Γ : Prog} {W : WX} {a : Expr} {da d : Slots → Store → Out MV} {pos : Pos} {ρ : List Addr} {S : Store} {H : Hp}
theorem sqt_tyx {K : PySem.W.Frag} {p : Addr} {vs : List V} (h : SqT K H p vs) : TyX K H (.ref p) (.type "tuple") := by
  rcases h with (h | ⟨o, h⟩) | ⟨o, its, n, h, e, _⟩
  · exact .base (.tup h)
  · exact .fTuple h
  · exact .kTuple h e
def tyAt (G : GI) : TyC → Value
  | .own g => .ref (G.ad g)
  | t => tyVal t
def clAt (G : GI) : Cl → Value
  | .own g => .ref (G.ad g)
  | c => clVal c
/-- a value's type -/
theorem tyx_of (hK : X.K = G.K) (hcl : ClssK G Γ X.K) (R : Rel G ρ S H) {x : MV} {w : V} {t : TyC} (h : tyC x S = some t) (kn : knT Γ t = true) (r : VRel G ρ H x w) : TyX X.K H w (tyAt G t) := by
  unfold tyC at h
  split at h
  · cases h; cases r; exact .base .non
  · cases h; cases r; exact .base (.bl _)
  · cases h; cases r; exact .base (.int _)
  · cases h; cases r; exact .base (.str _)
  · cases h
    obtain ⟨p, vs, rfl, hp, _⟩ := r
    exact sqt_tyx (by rw [hK]; exact hp)
  · split at h
    · rename_i e
      cases h
      obtain ⟨p, rfl, _, u, hu, vs, rfl, _⟩ := R.ref e r
      exact .base (.lst hu)
    · rename_i e
      cases h
      obtain ⟨p, e1, o⟩ := R.at_ e
      obtain ⟨p', e2, rfl⟩ := r
      rw [e1] at e2
      cases e2
      obtain ⟨ob, u, hu, vs, rfl, _⟩ := o
      exact .base (.frz hu)
    · rename_i e
      cases h
      obtain ⟨p, rfl, _, u, hu, vs, rfl, _⟩ := R.ref e r
      exact .base (.dK hu)
    · rename_i e
      cases h
      obtain ⟨p, rfl, _, u, hu, vs, rfl, _⟩ := R.ref e r
      exact .base (.dT hu)
    · rename_i e
      cases h
      obtain ⟨p, rfl, _, u, hu, dx, gs, rfl, _⟩ := R.ref e r
      obtain ⟨cd, e3⟩ := Option.isSome_iff_exists.mp kn
      have C := hcl _ cd e3
      exact .base (.ins hu C.cl C.is.ha C.is.hn.symm C.is.htk.symm C.is.hm)
    · cases h
  · cases h
theorem kit_bb {K : PySem.W.Frag} : ∀ t ∈ tyBlt, ∀ c ∈ clBlt, PySem.W.kitOne K (tyVal t) (clVal c) = some (isB t c) := by
  intro t ht c hc
  simp only [tyBlt, List.mem_cons, List.not_mem_nil, or_false] at ht
  simp only [clBlt, List.mem_cons, List.not_mem_nil, or_false] at hc
  rcases ht with rfl | rfl | rfl | rfl | rfl | rfl | rfl <;> rcases hc with rfl | rfl | rfl | rfl | rfl | rfl <;> exact kit_ty (by decide +kernel)
theorem ty_or (G : GI) (t : TyC) : (∃ g, t = .own g) ∨ (t ∈ tyBlt ∧ tyAt G t = tyVal t ∧ ∀ g, isB t (.own g) = false) := by
  cases t with
  | own g => exact .inl ⟨g, rfl⟩
  | _ => exact .inr ⟨by simp [tyBlt], rfl, fun _ => rfl⟩
theorem cl_or (G : GI) (c : Cl) : (∃ g, c = .own g) ∨ (c ∈ clBlt ∧ clAt G c = clVal c ∧ ∀ g, isB (.own g) c = false) := by
  cases c with
  | own g => exact .inl ⟨g, rfl⟩
  | _ => exact .inr ⟨by simp [clBlt], rfl, fun _ => rfl⟩
theorem kit_is {K : PySem.W.Frag} (hcl : ClssK G Γ K) {t : TyC} {c : Cl} (k1 : knT Γ t = true) (k2 : knC Γ c = true) : PySem.W.kitOne K (tyAt G t) (clAt G c) = some (isB t c) := by
  rcases ty_or G t with ⟨a, rfl⟩ | ⟨ht, et, ft⟩
  · obtain ⟨ca, ea⟩ := Option.isSome_iff_exists.mp k1
    rcases cl_or G c with ⟨b, rfl⟩ | ⟨hc, ec, fc⟩
    · obtain ⟨cb, eb⟩ := Option.isSome_iff_exists.mp k2
      show PySem.W.kitOne K (.ref (G.ad a)) (.ref (G.ad b)) = some (Nat.beq a b)
      by_cases q : a = b
      · subst q
        rw [Nat.beq_refl]
        unfold PySem.W.kitOne
        rw [if_pos (beq_self_eq_true _)]
      · have e : Nat.beq a b = false := by
          cases z : Nat.beq a b
          · rfl
          · exact (q (Nat.eq_of_beq_eq_true z)).elim
        rw [e]
        exact (hcl a ca ea).is.ko b cb eb fun z => q z.symm
    · rw [ec, fc]
      exact (hcl a ca ea).is.kc c hc
  · rw [et]
    rcases cl_or G c with ⟨b, rfl⟩ | ⟨hc, ec, fc⟩
    · obtain ⟨cb, eb⟩ := Option.isSome_iff_exists.mp k2
      rw [ft]
      exact (hcl b cb eb).is.kb t ht
    · rw [ec]
      exact kit_bb t ht c hc
def clV (G : GI) : Cl → V
  | .own g => .ref (G.ad g)
  | .str => .ty "str"
  | .int => .ty "int"
  | .bool => .ty "bool"
  | .list => .ty "list"
  | .tuple => .ty "tuple"
  | .dict => .ty "dict"
theorem clsv_of (c : Cl) : ClsV (clV G c) (clAt G c) := by
  cases c with
  | own g => exact .own _
  | _ => exact .ty _
theorem je_isi (hK : X.K = G.K) (hcl : ClssK G Γ X.K) {c : Cl} {e2 : Expr} {p : Pos} (hg : Gl X "isinstance") (hm : X.mg "isinstance" = none) (ha : PE X a (T G da W)) (hc : PE X e2 (tC (clV G c))) (hp : plainE a = true) (hp2 : plainE e2 = true)
    (e : ∀ m S, d m S = (da m S).bind fun x S1 => blO (isV Γ c x S1) S1) : PE X (.Call (.Name "isinstance" p) [a, e2] [] pos) (T G d W) := by
  have hpl : (backTo pos (starEach [e2] X.env)).any (·.1) = false := star_any (by rw [List.all_cons, hp2]; rfl)
  refine (pe_callB call_isi hg hm (by decide +kernel) (pa_cons ha (pa_cons hc pa_nil (star_plain hp2)) (star_plain hp)) (by decide) (by decide) (star_plain hp) hpl).imp fun σ H Q h => ?_
  refine (T.seq (f := fun x _ S1 => blO (isV Γ c x S1) S1) h e).mono fun x H1 ⟨ρ, S, m, v, R, s, hv, k⟩ => ?_
  obtain ⟨b, e1, q⟩ := k.bl_ok R
  unfold isV at e1
  split at e1
  · rename_i t e3
    split at e1
    · rename_i kn
      rw [Bool.and_eq_true] at kn
      cases e1
      exact ⟨x, clV G c, tyAt G t, clAt G c, _, rfl, clsv_of c, tyx_of hK hcl R e3 kn.1 hv, kit_is hcl kn.1 kn.2, q⟩
    · cases e1
  · cases e1
end
/-! ### displays of dicts -/
section
variable {G : GI} {ρ ρ' ρ0 : List Addr} {S : Store} {H H' H0 : Hp}
def PRel (G : GI) (ρ : List Addr) (H : Hp) : List (MV × MV) → List (V × V) → Prop
  | [], qs => qs = []
  | p :: ps, qs => ∃ q r, qs = q :: r ∧ VRel G ρ H p.1 q.1 ∧ VRel G ρ H p.2 q.2 ∧ PRel G ρ H ps r
theorem PRel.le (R : Rel G ρ S H) (l : Le ρ H ρ' H') : ∀ {ps : List (MV × MV)} {qs : List (V × V)}, PRel G ρ H ps qs → PRel G ρ' H' ps qs
  | [], _, h => h
  | p :: ps, _, h => by
    obtain ⟨q, r, e, h1, h2, h3⟩ := h
    exact ⟨q, r, e, h1.le R l, h2.le R l, PRel.le R l h3⟩
/-- an object unknown to the store is laid -/
theorem Rel.lay (R : Rel G ρ S H) {p : Addr} (u : HO) (hp : H p = none) : Rel G ρ S (upd H p u) ∧ Le ρ H ρ (upd H p u) := by
  have np := R.notin hp
  have l : Le ρ H ρ (upd H p u) := {
    pre := List.prefix_refl _
    keep := fun a o h _ => by rw [upd_ne (ne_of_none h hp)]; exact h
    frz := fun a o x h => by rw [upd_ne (ne_of_none h hp)]; exact h
    new := fun a m => .inl m }
  refine ⟨⟨R.len, R.nd, fun i a o ha ho => (R.obj i a o ha ho).mono l.pre (l.ext R) (upd_ne fun q => np (by rw [← q]; exact List.mem_of_getElem? ha)), fun a xs h m => ?_⟩, l⟩
  by_cases q : a = p
  · subst q; exact np m
  · rw [upd_ne q] at h
    exact R.tup a xs h m
/-- .. and taken up by it -/
theorem Rel.adopt (R : Rel G ρ S H) {p : Addr} {u0 u : HO} {o : MO} (np : p ∉ ρ) (h : H p = some u0) (nf : isFix u0 = false) (c : CRel G ρ H o u) : Rel G (ρ ++ [p]) (S ++ [o]) (upd H p u) := by
  have ex : Ext H (upd H p u) := Ext.upd h nf
  have pre := List.prefix_append ρ [p]
  have cu := CRel.mono pre ex c
  refine ⟨by simp [R.len], ?_, fun i a x ha hx => ?_, fun a xs ht hm => ?_⟩
  · rw [List.nodup_append]
    exact ⟨R.nd, by simp, fun a m b m2 => by rw [List.mem_singleton.mp m2]; rintro rfl; exact np m⟩
  · by_cases hi : i < ρ.length
    · rw [List.getElem?_append_left hi] at ha
      rw [List.getElem?_append_left (by rw [← R.len]; exact hi)] at hx
      exact (R.obj i a x ha hx).mono pre ex (upd_ne fun q => np (by rw [← q]; exact List.mem_of_getElem? ha))
    · have hi' : i = ρ.length := by
        have := (List.getElem?_eq_some_iff.mp ha).1
        simp at this
        omega
      subst hi'
      rw [List.getElem?_append_right (Nat.le_refl _)] at ha
      rw [R.len, List.getElem?_append_right (Nat.le_refl _)] at hx
      simp at ha hx
      subst ha hx
      have hpl : isPlain o = true := by cases o <;> first | rfl | cases c
      exact (ORel.plain hpl).mpr ⟨u, upd_same, cu⟩
  · by_cases q : a = p
    · subst q
      rw [upd_same] at ht
      cases ht
      have := CRel.nofix c
      cases this
    · rw [upd_ne q] at ht
      rcases List.mem_append.mp hm with z | z
      · exact R.tup a xs ht z
      · exact q (List.mem_singleton.mp z)
theorem Le.adopt (l : Le ρ0 H0 ρ H) {p : Addr} {u : HO} (hp : H0 p = none) : Le ρ0 H0 (ρ ++ [p]) (upd H p u) where
  pre := l.pre.trans (List.prefix_append _ _)
  keep := fun a o h n => by rw [upd_ne (ne_of_none h hp)]; exact l.keep a o h n
  frz := fun a o x h => by rw [upd_ne (ne_of_none h hp)]; exact l.frz a o x h
  new := fun a m => by
    rcases List.mem_append.mp m with z | z
    · exact l.new a z
    · rw [List.mem_singleton.mp z]; exact .inr hp
theorem krel_any : ∀ {kvs : List (Key × MV)} {ws : List (Key × V)} {k : Key}, KRel G ρ H kvs ws → (kvs.any fun kv => decide (kv.1 = k)) = ws.any fun kv => decide (kv.1 = k)
  | [], _, k, h => by cases h; rfl
  | (j, x) :: kvs, _, k, h => by
    obtain ⟨v, r, rfl, _, t⟩ := h
    rw [List.any_cons, List.any_cons, krel_any t]
theorem krel_put {k : Key} {x : MV} {v : V} (hv : VRel G ρ H x v) {kvs : List (Key × MV)} {ws : List (Key × V)} (h : KRel G ρ H kvs ws) : KRel G ρ H (dput kvs k x) (putK ws k v) := by
  unfold dput putK
  rw [krel_any h]
  split
  · have gen : ∀ {kvs : List (Key × MV)} {ws : List (Key × V)}, KRel G ρ H kvs ws → KRel G ρ H (kvs.map fun kv => if kv.1 = k then (kv.1, x) else kv) (ws.map fun kv => if kv.1 = k then (kv.1, v) else kv) := by
      intro kvs
      induction kvs with
      | nil => intro ws h; cases h; rfl
      | cons p kvs ih =>
        intro ws h
        obtain ⟨j, y⟩ := p
        obtain ⟨u, r, rfl, hu, t⟩ := h
        rw [List.map_cons, List.map_cons]
        by_cases q : j = k
        · rw [if_pos q, if_pos q]
          exact ⟨v, _, rfl, hv, ih t⟩
        · rw [if_neg q, if_neg q]
          exact ⟨u, _, rfl, hu, ih t⟩
    exact gen h
  · have gen : ∀ {kvs : List (Key × MV)} {ws : List (Key × V)}, KRel G ρ H kvs ws → KRel G ρ H (kvs ++ [(k, x)]) (ws ++ [(k, v)]) := by
      intro kvs
      induction kvs with
      | nil => intro ws h; cases h; exact ⟨v, [], rfl, hv, rfl⟩
      | cons p kvs ih =>
        intro ws h
        obtain ⟨j, y⟩ := p
        obtain ⟨u, r, rfl, hu, t⟩ := h
        exact ⟨u, _, rfl, hu, ih t⟩
    exact gen h
theorem krel_puts : ∀ {ps : List (Key × MV)} {qs : List (Key × V)} {kvs : List (Key × MV)} {ws : List (Key × V)}, KRel G ρ H ps qs → KRel G ρ H kvs ws → KRel G ρ H (dputs kvs ps) (mergeK ws qs)
  | [], _, kvs, ws, h, t => by cases h; exact t
  | (j, x) :: ps, _, kvs, ws, h, t => by
    obtain ⟨v, r, rfl, hv, t2⟩ := h
    show KRel G ρ H (dputs (dput kvs j x) ps) (mergeK (putK ws j v) r)
    exact krel_puts (ps := ps) t2 (krel_put hv t)
theorem key_rel {x : MV} {k : Key} {w : V} (h : keyOf x = some k) (r : VRel G ρ H x w) : w = kV k := by
  unfold keyOf at h
  split at h
  · cases h; cases r; rfl
  · cases h; cases r; rfl
  · cases h
theorem pairs_rel : ∀ {ps : List (MV × MV)} {kvs : List (Key × MV)} {qs : List (V × V)}, mapO pairKey ps = some kvs → PRel G ρ H ps qs → ∃ ks : List (Key × V), qs = ks.map (fun kv => (kV kv.1, kv.2)) ∧ KRel G ρ H kvs ks ∧ ks.length = ps.length
  | [], kvs, qs, e, h => by
    cases h
    simp only [mapO] at e
    cases e
    exact ⟨[], rfl, rfl, rfl⟩
  | p :: ps, kvs, qs, e, h => by
    obtain ⟨q, r, rfl, h1, h2, h3⟩ := h
    simp only [mapO] at e
    cases e1 : pairKey p with
    | none => rw [e1] at e; cases e
    | some kv =>
      rw [e1] at e
      simp only at e
      cases e2 : mapO pairKey ps with
      | none => rw [e2] at e; cases e
      | some rest =>
        rw [e2] at e
        cases e
        unfold pairKey at e1
        split at e1
        · rename_i k e3
          cases e1
          obtain ⟨ks, rfl, h4, h5⟩ := pairs_rel e2 h3
          refine ⟨(k, q.2) :: ks, ?_, ⟨q.2, ks, rfl, h2, h4⟩, by rw [List.length_cons, List.length_cons, h5]⟩
          rw [List.map_cons, ← key_rel e3 h1]
        · cases e1
end
section
variable {X : Cx} {G : GI} {W : WX} {a b : Expr} {da db d : Slots → Store → Out MV} {dP dQ : Slots → Store → Out (List (MV × MV))} {pos : Pos}
def TPs (G : GI) (d : Slots → Store → Out (List (MV × MV))) (W : WX) : L2.St → Hp → (List (V × V) → Hp → Prop) → Prop := fun σ H Q => ∃ ρ S m, Rel G ρ S H ∧ SRel G ρ H m σ ∧ K1 G ρ H (d m S) (PRel G) Q (exW G W σ)
/-- a display's pairs -/
structure PD (X : Cx) (G : GI) (W : WX) (ks : List (Option Expr)) (vs : List Expr) (d : Slots → Store → Out (List (MV × MV))) : Prop where
  ex : ∃ trs, (∀ pos, PPs X pos ks vs trs) ∧ ∀ σ H Q, TPs G d W σ H Q → tPairs trs σ H Q
  all : ks.all (·.isSome) = true
  len : ks.length = vs.length
theorem pd_nil (e : ∀ m S, dP m S = .ok [] S) : PD X G W [] [] dP := ⟨⟨[], fun _ => pps_nil, fun σ H Q ⟨ρ, S, m, R, sr, k⟩ => by rw [e] at k; exact k.ok R (Le.refl _ _) rfl⟩, rfl, rfl⟩
theorem pd_cons {ks : List (Option Expr)} {vs : List Expr} (ha : PE X a (T G da W)) (hb : PE X b (T G db W)) (hr : PD X G W ks vs dQ) (e : ∀ m S, dP m S = (da m S).bind fun x S1 => (db m S1).bind fun y S2 => (dQ m S2).bind fun ps S3 => .ok ((x, y) :: ps) S3) :
    PD X G W (some a :: ks) (b :: vs) dP := by
  obtain ⟨trs, h1, h2⟩ := hr.ex
  refine ⟨⟨(T G da W, T G db W) :: trs, fun pos => pps_cons ha hb (h1 pos), fun σ H Q ⟨ρ, S, m, R, sr, k⟩ => ?_⟩, hr.all, by rw [List.length_cons, List.length_cons, hr.len]⟩
  rw [e] at k
  refine ⟨ρ, S, m, R, sr, (K1.bind (R := RV G) k).mono fun x H1 ⟨ρ1, S1, mx, l1, r1, hx, k1⟩ => ?_⟩
  refine ⟨ρ1, S1, m, r1, sr.le R l1, (K1.bind (R := RV G) k1).mono fun y H2 ⟨ρ2, S2, my, l2, r2, hy, k2⟩ => ?_⟩
  refine h2 σ H2 _ ⟨ρ2, S2, m, r2, (sr.le R l1).le r1 l2, (K1.bind (R := PRel G) k2).mono fun qs H3 ⟨ρ3, S3, ps, l3, r3, hps, k3⟩ => ?_⟩
  exact k3.ok r3 (Le.refl _ _) ⟨(x, y), qs, rfl, (hx.le r1 l2).le r2 l3, hy.le r2 l3, hps⟩
theorem je_dnew (e : ∀ m S, d m S = new S (.dk [])) : PE X (.Dict [] [] pos) (T G d W) := pe_dnewK.imp fun σ H Q ⟨ρ, S, m, R, sr, k⟩ p hp => by
  rw [e] at k
  obtain ⟨R1, l1⟩ := R.new (o := .dk []) (u := .dK []) hp ⟨[], rfl, rfl⟩
  exact k.ok R1 l1 ⟨p, by rw [← R.len]; simp, rfl⟩
theorem je_dsp {ks : List (Option Expr)} {vs : List Expr} (h : PD X G W ks vs dP) (h0 : ks ≠ []) (h15 : ks.length ≤ 15) (hl : ∀ m S ps S1, dP m S = .ok ps S1 → ps.length ≤ 15)
    (e : ∀ m S, d m S = (dP m S).bind fun ps S1 => opt (mapO pairKey ps) fun kvs => new S1 (.dk (dputs [] kvs))) : PE X (.Dict ks vs pos) (T G d W) := by
  obtain ⟨trs, h1, h2⟩ := h.ex
  refine (pe_disp (h1 pos) h.all h.len h0 h15).imp fun σ H Q ⟨ρ, S, m, R, sr, k⟩ p hp => ?_
  rw [e] at k
  obtain ⟨R1, l1⟩ := R.lay (.dK []) hp
  have np := R.notin hp
  refine h2 σ _ _ ⟨ρ, S, m, R1, sr.le R l1, ?_⟩
  cases q : dP m S with
  | stuck => rw [q] at k; exact k.elim
  | exc x S1 => rw [q] at k; exact (K1.le (show K1 G ρ H (.exc x S1 : Out (List (MV × MV))) (PRel G) _ _ from k) l1)
  | ok ps S1 =>
    rw [q] at k
    simp only [Out.bind_ok] at k
    intro ρ2 H2 qs l2 r2 hps
    obtain ⟨kvs, e1, k1⟩ := k.opt_ok
    have hD : H2 p = some (.dK []) := l2.keep p _ upd_same np
    have np2 : p ∉ ρ2 := fun z => by
      rcases l2.new p z with y | y
      · exact np y
      · rw [upd_same] at y; cases y
    obtain ⟨kw, rfl, h4, h5⟩ := pairs_rel e1 hps
    refine ⟨hD, kw, rfl, by rw [h5]; exact hl m S ps S1 q, ?_⟩
    have c : CRel G ρ2 H2 (.dk (dputs [] kvs)) (.dK (mergeK [] kw)) := ⟨_, rfl, krel_puts h4 rfl⟩
    exact k1 (ρ2 ++ [p]) _ (.ref p) (Le.adopt (l1.trans l2) hp) (r2.adopt np2 hD rfl c) ⟨p, by rw [← r2.len]; simp, rfl⟩
end
end FE
/-! FEo: the checker: a text's expression is the evaluator's. -/
namespace FE
open PySem L2 PySem.Spec

/-! ### names, compared by numbers -/
def eqN : List Nat → List Nat → Bool
  | [], [] => true
  | a :: x, b :: y => match Nat.beq a b with
    | true => eqN x y
    | false => false
  | _, _ => false
theorem eqN_eq : ∀ {x y : List Nat}, eqN x y = true → x = y
  | [], [], _ => rfl
  | a :: x, b :: y, h => by
    unfold eqN at h
    split at h
    · rename_i e
      rw [Nat.eq_of_beq_eq_true e, eqN_eq h]
    · cases h
  | [], _ :: _, h => by cases h
  | _ :: _, [], h => by cases h
theorem eqN_self : ∀ x : List Nat, eqN x x = true
  | [] => rfl
  | a :: x => by
    unfold eqN
    have : Nat.beq a a = true := Nat.beq_refl a
    rw [this]
    exact eqN_self x
def eqS (a b : Str) : Bool := eqN a.cps.toList b.cps.toList
theorem eqS_eq {a b : Str} (h : eqS a b = true) : a = b := by
  obtain ⟨⟨x⟩⟩ := a
  obtain ⟨⟨y⟩⟩ := b
  have := eqN_eq h
  simp at this
  rw [this]
theorem eqS_self (a : Str) : eqS a a = true := eqN_self _
theorem eqS_beq (a b : Str) : (a == b) = eqS a b := by
  cases q : eqS a b with
  | true => rw [eqS_eq q]; exact beq_self_eq_true b
  | false => exact beq_eq_false_iff_ne.mpr fun z => by rw [z, eqS_self] at q; cases q
abbrev Nms := List (Str × NameKind)
def look (x : Str) : Nms → Option NameKind
  | [] => none
  | (y, k) :: l => match eqS x y with
    | true => some k
    | false => look x l
theorem look_eq (x : Str) : ∀ l : Nms, l.lookup x = look x l
  | [] => rfl
  | (y, k) :: l => by
    rw [List.lookup_cons, eqS_beq]
    unfold look
    cases eqS x y
    · exact look_eq x l
    · rfl
def isLoc : Option NameKind → Bool
  | some .local => true
  | _ => false
def isCell : Option NameKind → Bool
  | some .cell => true
  | _ => false
def isVis : Option NameKind → Bool
  | some .local => true
  | some .cell => true
  | some .free => true
  | _ => false
def isCF : Option NameKind → Bool
  | some .cell => true
  | some .free => true
  | _ => false
def isGlo : Option NameKind → Bool
  | some .globalImplicit => true
  | _ => false
/-- what the names that stand in the text are, where it runs -/
structure ScR (sc : Nms) (s : Scope) : Prop where
  loc : ∀ x, look x sc = some .local → s.names.lookup x = some .local
  cel : ∀ x, look x sc = some .cell → s.names.lookup x = some .cell
  fre : ∀ x, look x sc = some .free → s.names.lookup x = some .cell ∨ s.names.lookup x = some .free
  glo : ∀ x, look x sc = some .globalImplicit → s.names.lookup x = some .globalImplicit
theorem ScR.vis {sc : Nms} {s : Scope} (r : ScR sc s) {x : Str} (h : isVis (look x sc) = true) : Vis s x := by
  unfold isVis at h
  split at h
  · rename_i e; exact .inl (r.loc x e)
  · rename_i e; exact .inr (.inl (r.cel x e))
  · rename_i e; exact .inr (r.fre x e)
  · cases h
theorem ScR.self (s : Scope) : ScR s.names s := ⟨fun x h => by rw [look_eq]; exact h, fun x h => by rw [look_eq]; exact h, fun x h => by rw [look_eq]; exact .inr h, fun x h => by rw [look_eq]; exact h⟩
theorem isLoc_eq {o : Option NameKind} (h : isLoc o = true) : o = some .local := by
  unfold isLoc at h; split at h <;> first | rfl | cases h
theorem isCell_eq {o : Option NameKind} (h : isCell o = true) : o = some .cell := by
  unfold isCell at h; split at h <;> first | rfl | cases h
theorem isGlo_eq {o : Option NameKind} (h : isGlo o = true) : o = some .globalImplicit := by
  unfold isGlo at h; split at h <;> first | rfl | cases h
theorem isCF_eq {o : Option NameKind} (h : isCF o = true) : o = some .cell ∨ o = some .free := by
  unfold isCF at h; split at h <;> first | exact .inl rfl | exact .inr rfl | cases h
/-! ### where a text runs -/
def ownC : Cl → Bool
  | .own _ => true
  | _ => false
def clNm : Cl → Str
  | .own _ => "object"
  | .str => "str" | .int => "int" | .bool => "bool" | .list => "list" | .tuple => "tuple" | .dict => "dict"
/-- the module's names -/
structure GlOk (G : GI) (Γ : Prog) (gl : Nat → Bool) (K : PySem.W.Frag) (mg : Str → Option Value) : Prop where
  fn : ∀ g, gl g = true → mg (G.nm g) = some (.ref (G.ad g)) ∧ PySem.W.keepIn K (.ref (G.ad g)) = true
  con : ∀ g v, Γ.con g = some v → ∃ u w, mg (G.nm g) = some u ∧ RelV w u ∧ ∀ ρ H, VRel G ρ H v w
  blt : ∀ b, mg (bltNm b) = none
  cl : ∀ c, ownC c = false → mg (clNm c) = none
  rng : mg "range" = none ∧ mg "enumerate" = none ∧ mg "zip" = none ∧ mg "isinstance" = none
  bm : ∀ m kd k b, bmOf kd m k = some b → G.nm m = bmNm b
structure CK (G : GI) (Γ : Prog) (gl : Nat → Bool) (n : Nat) (N : List Str) (W : WX) (sc : Nms) (X : Cx) : Prop where
  K : X.K = G.K
  eN : X.N = N
  nd : N.Nodup
  hr : Room n X.A
  hg : X.A.guards = some []
  hc : ∀ m ≤ n, CallsAt G Γ X.prog X.w X.K X.mg X.base m
  hcl : ClsAt G Γ X.K
  hcc : ClssK G Γ X.K
  gl : GlOk G Γ gl X.K X.mg
  tk : Takes X W
  calm : X.calm = true
  kind : X.env.scope.kind = .function
  scr : ScR sc X.env.scope
  fn : ∀ x, look x sc = some .cell → X.fn x = true
theorem CK.un {G : GI} {Γ : Prog} {gl : Nat → Bool} {n : Nat} {N : List Str} {W : WX} {sc : Nms} {X : Cx} (c : CK G Γ gl n N W sc X) : X.A.units + 64 < cLine := by have := c.hr.un; omega
theorem CK.gli {G : GI} {Γ : Prog} {gl : Nat → Bool} {n : Nat} {N : List Str} {W : WX} {sc : Nms} {X : Cx} (c : CK G Γ gl n N W sc X) {x : Str} (h : isGlo (look x sc) = true) : Gl X x := c.scr.glo x (isGlo_eq h)
/-! ### the checker -/
def dbg : Str := ⟨#[95, 95, 100, 101, 98, 117, 103, 95, 95]⟩
theorem dbg_eq : dbg = "__debug__" := by decide +kernel
def cdd : Str := ⟨#[95, 95, 99, 108, 97, 115, 115, 100, 105, 99, 116, 95, 95]⟩
theorem cdd_eq : cdd = "__classdict__" := by decide +kernel
def rngS : Str := ⟨#[114, 97, 110, 103, 101]⟩
theorem rngS_eq : rngS = "range" := by decide +kernel
def isiS : Str := ⟨#[105, 115, 105, 110, 115, 116, 97, 110, 99, 101]⟩
theorem isiS_eq : isiS = "isinstance" := by decide +kernel
def okNm (x : Str) : Bool := !eqS x dbg && !eqS x cdd
theorem okNm_dbg {x : Str} (h : okNm x = true) : (x == ("__debug__" : Str)) = false := by
  unfold okNm at h
  rw [Bool.and_eq_true, Bool.not_eq_true', Bool.not_eq_true'] at h
  rw [eqS_beq, ← dbg_eq]; exact h.1
theorem okNm_cd {x : Str} (h : okNm x = true) : (x == ("__classdict__" : Str)) = false := by
  unfold okNm at h
  rw [Bool.and_eq_true, Bool.not_eq_true', Bool.not_eq_true'] at h
  rw [eqS_beq, ← cdd_eq]; exact h.2
def nmAt (N : List Str) (i : Nat) (x : Str) : Bool := match N[i]? with
  | some y => eqS y x
  | none => false
theorem nmAt_eq {N : List Str} {i : Nat} {x : Str} (h : nmAt N i x = true) : N[i]? = some x := by
  unfold nmAt at h
  split at h
  · rename_i y e; rw [e, eqS_eq h]
  · cases h
def cstB : MV → Const → Bool
  | .non, .none => true
  | .bl a, .bool b => a == b
  | .int i, .int j => decide (i = j)
  | .str s, .str t => eqS s t
  | _, _ => false
def plainIxB : Expr → Bool
  | .Slice _ _ _ _ => false
  | _ => true
def baseB : Expr → Bool
  | .Call (.Name _ _) [] [] _ => false
  | _ => true
def setB : Expr → Bool
  | .Set _ _ _ => true
  | _ => false
def isBoolE : Expr → Bool
  | .BoolOp _ _ _ => true
  | _ => false
def ownP (N : List Str) (own : List Nat) : List (Str × Nat) := own.map fun i => ((N[i]?).getD ⟨#[]⟩, i)
theorem ownP_snd (N : List Str) (own : List Nat) : (ownP N own).map (·.2) = own := by
  unfold ownP
  rw [List.map_map]
  exact List.map_id _
def memS (x : Str) (l : List Str) : Bool := l.any fun y => eqS x y
theorem memS_iff {x : Str} {l : List Str} : memS x l = true ↔ x ∈ l := by
  unfold memS
  rw [List.any_eq_true]
  exact ⟨fun ⟨y, h1, h2⟩ => by rw [eqS_eq h2]; exact h1, fun h => ⟨x, h, eqS_self x⟩⟩
/-- a comprehension's names stand in their slots -/
def blkB (N : List Str) (sc : Nms) (scope : Scope) (own : List Nat) : Bool :=
  (match scope.kind with
    | .function => true
    | _ => false) && (scope.names.all fun y => decide (look y.1 scope.names = some y.2)) && (own.all fun i => decide (i < N.length)) &&
    (scope.names.all fun y => match y.2 with
      | .free => isCF (look y.1 sc)
      | .local => memS y.1 ((ownP N own).map (·.1)) || !memS y.1 N
      | .cell => memS y.1 ((ownP N own).map (·.1)) || !memS y.1 N
      | _ => true)
theorem blkB_ok {N : List Str} {sc : Nms} {s scope : Scope} {own : List Nat} (r : ScR sc s) (h : blkB N sc scope own = true) : BlkOk N s scope (ownP N own) := by
  unfold blkB at h
  rw [Bool.and_eq_true, Bool.and_eq_true, Bool.and_eq_true] at h
  obtain ⟨⟨⟨h1, h2⟩, h3⟩, h4⟩ := h
  rw [List.all_eq_true] at h2 h3 h4
  refine ⟨?_, fun y hy => ?_, fun p hp => ?_, fun y hy e => ?_, fun y hy e => ?_⟩
  · split at h1
    · assumption
    · cases h1
  · rw [look_eq]; exact of_decide_eq_true (h2 y hy)
  · unfold ownP at hp
    obtain ⟨i, hi, rfl⟩ := List.mem_map.mp hp
    have := of_decide_eq_true (h3 i hi)
    show N[i]? = some ((N[i]?).getD _)
    rw [List.getElem?_eq_getElem this]
    rfl
  · have q := h4 y hy
    simp only [e] at q
    rcases isCF_eq q with z | z
    · exact .inl (r.cel _ z)
    · exact r.fre _ z
  · have q := h4 y hy
    have fin : (memS y.1 ((ownP N own).map (·.1)) || !memS y.1 N) = true → y.1 ∈ (ownP N own).map (·.1) ∨ y.1 ∉ N := fun q => by
      rw [Bool.or_eq_true, Bool.not_eq_true'] at q
      rcases q with q | q
      · exact .inl (memS_iff.mp q)
      · exact .inr fun z => by rw [memS_iff.mpr z] at q; cases q
    rcases e with e | e <;> (simp only [e] at q; exact fin q)
theorem lookup_map (g : Str → NameKind → NameKind) (x : Str) : ∀ l : Nms, (l.map fun y => (y.1, g y.1 y.2)).lookup x = (look x l).map (g x)
  | [] => rfl
  | (n, k) :: l => by
    rw [List.map_cons, List.lookup_cons, eqS_beq]
    unfold look
    cases e : eqS x n
    · exact lookup_map g x l
    · rw [eqS_eq e]; rfl
/-- the names of a comprehension's block, where it runs -/
theorem scr_blk (scope : Scope) (cl : List (Str × Addr)) (C : Addr) (env : Env) : ScR scope.names (compEnvC scope cl C env).scope := by
  let g : Str → NameKind → NameKind := fun n k => if (k == NameKind.free && env.scope.kind == .function && env.kindOf n == some .cell) = true then NameKind.cell else k
  have e : (compEnvC scope cl C env).scope.names = scope.names.map fun y => (y.1, g y.1 y.2) := by
    show (relabel scope env).names = _
    unfold relabel
    refine List.map_congr_left fun y _ => ?_
    obtain ⟨n, k⟩ := y
    show (if _ then _ else _) = (n, if _ then _ else _)
    split <;> rfl
  have hl : ∀ x, (compEnvC scope cl C env).scope.names.lookup x = (look x scope.names).map (g x) := fun x => by rw [e]; exact lookup_map g x _
  refine ⟨fun x h => ?_, fun x h => ?_, fun x h => ?_, fun x h => ?_⟩
  · rw [hl, h]; rfl
  · rw [hl, h]; rfl
  · rw [hl, h]
    show some (if _ then _ else _) = _ ∨ some (if _ then _ else _) = _
    split
    · exact .inl rfl
    · exact .inr rfl
  · rw [hl, h]; rfl
theorem CK.blk {G : GI} {Γ : Prog} {gl : Nat → Bool} {n : Nat} {N : List Str} {W : WX} {sc : Nms} {X : Cx} (c : CK G Γ gl n N W sc X) {scope : Scope} (hk : scope.kind = .function) (s : Shared) (H : Hp) (C : Addr) (cl : List (Str × Addr)) (fp : List Addr) : CK G Γ gl n N WF scope.names (X.blk s H scope (compEnvC scope cl C X.env) fp) where
  K := c.K
  eN := c.eN
  nd := c.nd
  hr := c.hr
  hg := c.hg
  hc := c.hc
  hcl := c.hcl
  hcc := c.hcc
  gl := c.gl
  tk := fun _ _ x => by
    obtain ⟨_, _, _, _, _, _, _, _, _, _, _, _, _, _, _, _, z⟩ := x
    cases z
  calm := c.calm
  kind := hk
  scr := scr_blk scope cl C X.env
  fn := fun x h => by
    show (scope.names.lookup x == some .cell) = true
    rw [look_eq, h]
    rfl
def isAnil : ME → Bool
  | .anil => true
  | _ => false
def isTrueC : ME → Bool
  | .cst (.bl true) => true
  | _ => false
section
variable (nm : Nat → Str) (gl con : Nat → Bool) (N : List Str)
mutual
/-- a target of names -/
def chkT (sc : Nms) : NT → Expr → Bool
  | .nm i, e => match e with
    | .Name x _ => nmAt N i x && (isLoc (look x sc) || isCell (look x sc))
    | _ => false
  | .tup l, e => match e with
    | .Tuple es _ _ => chkTs sc l es
    | _ => false
  | _, _ => false
def chkTs (sc : Nms) : NT → List Expr → Bool
  | .nil, es => match es with
    | [] => true
    | _ => false
  | .cons h t, es => match es with
    | e :: es => plainE e && chkT sc h e && chkTs sc t es
    | [] => false
  | _, _ => false
end
mutual
def chkE (sc : Nms) : ME → Expr → Bool
  | .anil, _ => true
  | .slot i, e => match e with
    | .Name x _ => nmAt N i x && isVis (look x sc) && okNm x
    | _ => false
  | .glob g, e => match e with
    | .Name x _ => eqS (nm g) x && isGlo (look x sc) && okNm x
    | _ => false
  | .cst v, e => match e with
    | .Constant c _ _ => cstB v c
    | _ => false
  | .bin op a b, e => match e with
    | .BinOp x o y _ => decide (opOf op = o) && chkE sc a x && chkE sc b y
    | _ => false
  | .neg a, e => match e with
    | .UnaryOp .USub x _ => chkE sc a x
    | _ => false
  | .cmp op a b, e => match e with
    | .Compare x [o] [y] _ => decide (cmpOf op = o) && !behindInMarks o y && chkE sc a x && chkE sc b y
    | _ => false
  | .chain o1 o2 a b c, e => match e with
    | .Compare x [p, q] [y, z] _ => decide (cmpOf o1 = p) && decide (cmpOf o2 = q) && !lastMarks [p, q] [y, z] && chkE sc a x && chkE sc b y && chkE sc c z
    | _ => false
  | .and a b, e => match e with
    | .BoolOp .And [x, y] _ => chkE sc a x && chkE sc b y
    | .BoolOp .And (x :: y :: z :: r) p => chkE sc a x && chkE sc b (.BoolOp .And (y :: z :: r) p)
    | _ => false
  | .or a b, e => match e with
    | .BoolOp .Or [x, y] _ => chkE sc a x && chkE sc b y
    | .BoolOp .Or (x :: y :: z :: r) p => chkE sc a x && chkE sc b (.BoolOp .Or (y :: z :: r) p)
    | _ => false
  | .not a, e => match e with
    | .UnaryOp .Not x _ => chkE sc a x
    | _ => false
  | .ife c a b, e => match e with
    | .IfExp t x y _ => chkE sc c t && chkE sc a x && chkE sc b y
    | _ => false
  | .tup es, e => match e with
    | .Tuple l _ _ => decide (l.length ≤ 1000) && chkA sc es l
    | _ => false
  | .lst es, e => match e with
    | .List l _ => decide (l.length ≤ 1000) && chkA sc es l
    | _ => false
  | .ix a i, e => match e with
    | .Subscript x y _ => plainIxB y && chkE sc a x && chkE sc i y
    | _ => false
  | .attr o f, e => match e with
    | .Attribute x a _ => eqS (nm f) a && baseB x && chkE sc o x
    | _ => false
  | .call g as ks, e => match e with
    | .Call (.Name x _) es kws _ => gl g && eqS (nm g) x && isGlo (look x sc) && okNm x && chkA sc as es && chkK sc ks kws
    | _ => false
  | .blt b as ks, e => match e with
    | .Call (.Name x _) (a :: es) [] _ => eqS (bltNm b) x && isGlo (look x sc) && isAnil ks && chkA sc as (a :: es)
    | _ => false
  | .isi a c, e => match e with
    | .Call (.Name x _) [y, .Name z _] [] _ => eqS isiS x && isGlo (look x sc) && plainE y && isGlo (look z sc) && okNm z && (match c with
      | .own g => gl g && eqS (nm g) z
      | c => eqS (clNm c) z) && chkE sc a y
    | _ => false
  | .dsp kvs, e => match e with
    | .Dict ks vs _ => decide (ks.length ≤ 15) && chkP sc kvs ks vs
    | _ => false
  | .meth m o as ks, e => match e with
    | .Call (.Attribute x a ap) es kws p => eqS (nm m) a && baseB x && decide (es.length + kws.length < 29) && (ap.endLine == p.line) && chkE sc o x && chkA sc as es && chkK sc ks kws
    | _ => false
  | .comp own t it cnd elt, e => match e with
    | .ListComp el [⟨tg, iter, ifs, as⟩] scope _ => decide (as = 0) && blkB N sc scope own && ((ntNames t).all fun i => own.contains i) && chkT N scope.names t tg && chkI sc it iter && (match ifs with
      | [] => isTrueC cnd
      | [c] => chkE scope.names cnd c
      | _ => false) && chkE scope.names elt el
    | _ => false
  | _, _ => false
def chkA (sc : Nms) : ME → List Expr → Bool
  | .anil, es => match es with
    | [] => true
    | _ => false
  | .acons a r, es => match es with
    | e :: es => plainE e && chkE sc a e && chkA sc r es
    | [] => false
  | _, _ => false
def chkK (sc : Nms) : ME → List Keyword → Bool
  | .anil, ks => match ks with
    | [] => true
    | _ => false
  | .kcons k a r, ks => match ks with
    | ⟨some x, e, _⟩ :: ks => eqS (nm k) x && chkE sc a e && chkK sc r ks
    | _ => false
  | _, _ => false
def chkP (sc : Nms) : ME → List (Option Expr) → List Expr → Bool
  | .anil, ks, vs => match ks, vs with
    | [], [] => true
    | _, _ => false
  | .pcons k v r, ks, vs => match ks, vs with
    | some x :: ks, y :: vs => chkE sc k x && chkE sc v y && chkP sc r ks vs
    | _, _ => false
  | _, _, _ => false
def chkI (sc : Nms) : ME → Expr → Bool
  | .iseq m, e => !setB e && chkE sc m e
  | .irng1 a, e => match e with
    | .Call (.Name x _) [y] [] _ => eqS rngS x && isGlo (look x sc) && plainE y && chkE sc a y
    | _ => false
  | _, _ => false
end
end
end FE
/-! FEp: what the checker passes is so. -/
namespace FE
open PySem L2 PySem.Spec

section
variable {Γ : Prog} {C : Calls} {nm : Nat → Str} {gl : Nat → Bool} {N : List Str}
theorem evA_len (m : ME) : ∀ {σ : Slots} {S S1 : Store} {v : List MV} {sc : Nms} {es : List Expr}, chkA nm gl N sc m es = true → evA Γ C m σ S = .ok v S1 → v.length = es.length := by
  induction m with
  | anil =>
    intro σ S S1 v sc es h e
    unfold chkA at h
    split at h
    · unfold evA at e; cases e; rfl
    · cases h
  | acons a r _ ih =>
    intro σ S S1 v sc es h e
    unfold chkA at h
    split at h
    · rename_i x es
      simp only [Bool.and_eq_true] at h
      unfold evA at e
      obtain ⟨x1, S2, e1, e2⟩ := bind_ok e
      obtain ⟨xs, S3, e3, e4⟩ := bind_ok e2
      cases e4
      rw [List.length_cons, List.length_cons, ih h.2 e3]
    · cases h
  | _ => intro σ S S1 v sc es h; simp [chkA] at h
theorem chkA_plain (m : ME) : ∀ {sc : Nms} {es : List Expr}, chkA nm gl N sc m es = true → es.all plainE = true := by
  induction m with
  | anil =>
    intro sc es h
    unfold chkA at h
    split at h
    · rfl
    · cases h
  | acons a r _ ih =>
    intro sc es h
    unfold chkA at h
    split at h
    · simp only [Bool.and_eq_true] at h
      rw [List.all_cons, ih h.2, h.1.1]
      rfl
    · cases h
  | _ => intro sc es h; simp [chkA] at h
theorem chkA_nil {m : ME} {sc : Nms} (h : chkA nm gl N sc m [] = true) : ∀ σ S, evA Γ C m σ S = .ok [] S := by
  cases m with
  | anil => intro σ S; rfl
  | _ => simp [chkA] at h
theorem chkK_keys (m : ME) : ∀ {σ : Slots} {S S1 : Store} {v : List (Nat × MV)} {sc : Nms} {ks : List Keyword}, chkK nm gl N sc m ks = true → evK Γ C m σ S = .ok v S1 → ks.filterMap (·.arg) = v.map fun q => nm q.1 := by
  induction m with
  | anil =>
    intro σ S S1 v sc ks h e
    unfold chkK at h
    split at h
    · unfold evK at e; cases e; rfl
    · cases h
  | kcons k a r _ ih =>
    intro σ S S1 v sc ks h e
    unfold chkK at h
    split at h
    · rename_i x y p ks
      simp only [Bool.and_eq_true] at h
      unfold evK at e
      obtain ⟨x1, S2, e1, e2⟩ := bind_ok e
      obtain ⟨xs, S3, e3, e4⟩ := bind_ok e2
      cases e4
      show x :: ks.filterMap (·.arg) = nm k :: xs.map fun q => nm q.1
      rw [ih h.2 e3, eqS_eq h.1.1]
    · cases h
  | _ => intro σ S S1 v sc ks h; simp [chkK] at h
theorem chkK_some (m : ME) : ∀ {sc : Nms} {ks : List Keyword}, chkK nm gl N sc m ks = true → ks.all (·.arg.isSome) = true := by
  induction m with
  | anil =>
    intro sc ks h
    unfold chkK at h
    split at h
    · rfl
    · cases h
  | kcons k a r _ ih =>
    intro sc ks h
    unfold chkK at h
    split at h
    · simp only [Bool.and_eq_true] at h
      rw [List.all_cons, ih h.2]
      rfl
    · cases h
  | _ => intro sc ks h; simp [chkK] at h
theorem chkK_nil {m : ME} {sc : Nms} {ks : List Keyword} (h : chkK nm gl N sc m ks = true) (e : isNilA m = true) : ks = [] := by
  cases m with
  | anil =>
    unfold chkK at h
    split at h
    · rfl
    · cases h
  | _ => simp [isNilA] at e
theorem evP_len (m : ME) : ∀ {σ : Slots} {S S1 : Store} {v : List (MV × MV)} {sc : Nms} {ks : List (Option Expr)} {vs : List Expr}, chkP nm gl N sc m ks vs = true → evP Γ C m σ S = .ok v S1 → v.length = ks.length := by
  induction m with
  | anil =>
    intro σ S S1 v sc ks vs h e
    unfold chkP at h
    split at h
    · unfold evP at e; cases e; rfl
    · cases h
  | pcons k a r _ _ ih =>
    intro σ S S1 v sc ks vs h e
    unfold chkP at h
    split at h
    · simp only [Bool.and_eq_true] at h
      unfold evP at e
      obtain ⟨x1, S2, e1, e2⟩ := bind_ok e
      obtain ⟨x2, S3, e3, e4⟩ := bind_ok e2
      obtain ⟨xs, S4, e5, e6⟩ := bind_ok e4
      cases e6
      rw [List.length_cons, List.length_cons, ih h.2 e5]
    · cases h
  | _ => intro σ S S1 v sc ks vs h; simp [chkP] at h
theorem chkA_argN (m : ME) : ∀ {sc : Nms} {es : List Expr}, chkA nm gl N sc m es = true → argN m = es.length := by
  induction m with
  | anil =>
    intro sc es h
    unfold chkA at h
    split at h
    · rfl
    · cases h
  | acons a r _ ih =>
    intro sc es h
    unfold chkA at h
    split at h
    · simp only [Bool.and_eq_true] at h
      unfold argN
      rw [List.length_cons, ih h.2]
    · cases h
  | _ => intro sc es h; simp [chkA] at h
end
/-! ### tests -/
section
variable {da db d : Slots → Store → Out MV}
theorem tst_and (e : ∀ m S, d m S = (da m S).bind fun x S1 => match truth x S1 with
    | some true => db m S1
    | some false => .ok x S1
    | none => .stuck) (m : Slots) (S : Store) : tst d m S = (tst da m S).bind fun v S1 => if v = true then tst db m S1 else .ok false S1 := by
  unfold tst
  rw [e]
  cases da m S with
  | ok v S1 =>
    simp only [Out.bind_ok]
    cases q : truth v S1 with
    | none => rfl
    | some b => cases b <;> simp [q]
  | exc x S1 => rfl
  | stuck => rfl
theorem tst_or (e : ∀ m S, d m S = (da m S).bind fun x S1 => match truth x S1 with
    | some true => .ok x S1
    | some false => db m S1
    | none => .stuck) (m : Slots) (S : Store) : tst d m S = (tst da m S).bind fun v S1 => if v = true then .ok true S1 else tst db m S1 := by
  unfold tst
  rw [e]
  cases da m S with
  | ok v S1 =>
    simp only [Out.bind_ok]
    cases q : truth v S1 with
    | none => rfl
    | some b => cases b <;> simp [q]
  | exc x S1 => rfl
  | stuck => rfl
theorem tst_not (e : ∀ m S, d m S = (da m S).bind fun x S1 => blO ((truth x S1).map (!·)) S1) (m : Slots) (S : Store) : tst d m S = (tst da m S).bind fun v S1 => .ok (!v) S1 := by
  unfold tst
  rw [e]
  cases da m S with
  | ok v S1 =>
    simp only [Out.bind_ok]
    cases q : truth v S1 with
    | none => rfl
    | some b => rfl
  | exc x S1 => rfl
  | stuck => rfl
theorem bind_ife {dc : Slots → Store → Out MV} (e : ∀ m S, d m S = (dc m S).bind fun x S1 => match truth x S1 with
    | some true => da m S1
    | some false => db m S1
    | none => .stuck) (m : Slots) (S : Store) : d m S = (tst dc m S).bind fun v S1 => if v = true then da m S1 else db m S1 := by
  unfold tst
  rw [e]
  cases dc m S with
  | ok v S1 =>
    simp only [Out.bind_ok]
    cases q : truth v S1 with
    | none => rfl
    | some b => cases b <;> rfl
  | exc x S1 => rfl
  | stuck => rfl
theorem tst_ife {dc : Slots → Store → Out MV} (e : ∀ m S, d m S = (dc m S).bind fun x S1 => match truth x S1 with
    | some true => da m S1
    | some false => db m S1
    | none => .stuck) (m : Slots) (S : Store) : tst d m S = (tst dc m S).bind fun v S1 => if v = true then tst da m S1 else tst db m S1 := by
  show (d m S).bind _ = _
  rw [bind_ife e]
  cases tst dc m S with
  | ok v S1 => cases v <;> rfl
  | exc x S1 => rfl
  | stuck => rfl
end
section
variable {X : Cx} {G : GI} {W : WX} {a b c : Expr} {da db dc d : Slots → Store → Out MV} {pos : Pos}
/-- a comparison, as a test -/
theorem jt_cmp (hK : X.K = G.K) (hu : X.A.units + 64 < cLine) (op : COp) (ha : PE X a (T G da W)) (hb : PE X b (T G db W)) (hm : behindInMarks (cmpOf op) b = false)
    (e : ∀ m S, d m S = (da m S).bind fun x S1 => (db m S1).bind fun y S2 => blO (cmpV op x y S2) S2) : PT X (.Compare a [cmpOf op] [b] pos) (Tb G d W) :=
  (pt_cmpR (op_cmp hK hu op) ha hb hm).imp fun σ H Q ⟨ρ, S, m, R, sr, k⟩ => by
    unfold tst at k
    rw [e] at k
    have k' : K1 G ρ H ((da m S).bind fun x S1 => (db m S1).bind fun y S2 => (blO (cmpV op x y S2) S2).bind fun v S3 => match truth v S3 with
        | some b => Out.ok b S3
        | none => .stuck) (fun _ _ (b c : Bool) => b = c) Q (exW G W σ) := by
      cases q : da m S with
      | stuck => rw [q] at k; exact k
      | exc x S1 => rw [q] at k; exact k
      | ok v S1 =>
        rw [q] at k
        simp only [Out.bind_ok] at k ⊢
        cases q2 : db m S1 with
        | stuck => rw [q2] at k; exact k
        | exc x S2 => rw [q2] at k; exact k
        | ok w S2 => rw [q2] at k; exact k
    refine ⟨ρ, S, m, R, sr, (K1.bind (R := RV G) k').mono fun x H1 ⟨ρ1, S1, v, l, r, hv, q⟩ => ?_⟩
    refine ⟨ρ1, S1, m, r, sr.le R l, (K1.bind (R := RV G) q).mono fun y H2 ⟨ρ2, S2, w, l2, r2, hw, q2⟩ => ?_⟩
    refine ⟨ρ2, S2, v, w, r2, hv.le r l2, hw, ?_⟩
    cases qc : cmpV op v w S2 with
    | none => rw [qc] at q2; exact q2.elim
    | some bb =>
      rw [qc] at q2
      show K1 G ρ2 H2 (blO (cmpV op v w S2) S2) _ _ _
      rw [qc]
      intro ρ3 H3 z l3 r3 hz
      cases hz
      exact ⟨bb, rfl, q2 ρ3 H3 bb l3 r3 rfl⟩
end
/-! ### the theorem, for expressions -/
def testB : Expr → Bool
  | .UnaryOp .Not _ _ => true
  | .BoolOp _ _ _ => true
  | .IfExp _ _ _ _ => true
  | .Compare _ _ _ _ => true
  | _ => false
section
variable {G : GI} {Γ : Prog} {gl : Nat → Bool} {n : Nat} {N : List Str}
structure OkE (G : GI) (Γ : Prog) (n : Nat) (W : WX) (X : Cx) (m : ME) (e : Expr) : Prop where
  pe : PE X e (T G (evE Γ (calls Γ n) m) W)
  pt : PT X e (Tb G (evE Γ (calls Γ n) m) W)
  pw : isBoolE e = true → PW X e (Tb G (evE Γ (calls Γ n) m) W)
theorem jt_plain {X : Cx} {W : WX} {e : Expr} {da : Slots → Store → Out MV} (hK : X.K = G.K) (ht : testB e = false) (h : PE X e (T G da W)) : PT X e (Tb G da W) := by
  refine jt_val hK h fun whole => ?_
  cases e with
  | UnaryOp op x p => cases op <;> first | rfl | cases ht
  | BoolOp _ _ _ => cases ht
  | IfExp _ _ _ _ => cases ht
  | Compare _ _ _ _ => cases ht
  | _ => rfl
theorem OkE.of {X : Cx} {W : WX} {m : ME} {e : Expr} (hK : X.K = G.K) (h : PE X e (T G (evE Γ (calls Γ n) m) W)) (ht : testB e = false) : OkE G Γ n W X m e :=
  ⟨h, jt_plain hK ht h, fun z => by cases e <;> first | (cases ht; done) | (cases z; done)⟩
theorem OkE.test {X : Cx} {W : WX} {m : ME} {e : Expr} (h : PE X e (T G (evE Γ (calls Γ n) m) W)) (t : PT X e (Tb G (evE Γ (calls Γ n) m) W)) (hb : isBoolE e = false) : OkE G Γ n W X m e := ⟨h, t, fun z => by rw [hb] at z; cases z⟩
theorem OkE.stuck {X : Cx} {W : WX} {m : ME} {e : Expr} (h : ∀ σ S, evE Γ (calls Γ n) m σ S = .stuck) : OkE G Γ n W X m e :=
  ⟨je_stuck h, jt_stuck h, fun _ => ⟨fun w p s σ H Q I ⟨ρ, S, m, R, sr, k⟩ => by unfold tst at k; rw [h] at k; exact k.elim⟩⟩
theorem plainIxB_ok {b : Expr} (h : plainIxB b = true) : PlainIx b := fun o i => by cases b <;> first | rfl | cases h
theorem setB_ok {e : Expr} (h : setB e = false) (env : Env) : ∀ x, foldedSetIterable e env x = pure x := fun x => by cases e <;> first | rfl | cases h
theorem assignEach_cons {e : Expr} {es : List Expr} {env : Env} (h : plainE e = true) : assignEach (e :: es) env = (false, assign e env) :: assignEach es env := by
  cases e <;> first | rfl | cases h
theorem assignEach_len : ∀ {es : List Expr} {env : Env}, es.all plainE = true → (assignEach es env).length = es.length
  | [], _, _ => rfl
  | e :: es, env, h => by
    rw [List.all_cons, Bool.and_eq_true] at h
    rw [assignEach_cons h.1, List.length_cons, List.length_cons, assignEach_len h.2]
theorem assignEach_idx : ∀ {es : List Expr} {env : Env}, es.all plainE = true → (assignEach es env).findIdx? (·.1) = none
  | [], _, _ => rfl
  | e :: es, env, h => by
    rw [List.all_cons, Bool.and_eq_true] at h
    rw [assignEach_cons h.1, List.findIdx?_cons, assignEach_idx h.2]
    rfl
theorem pts_true {X : Cx} {W : WX} : PTs X [] (Tb G (evE Γ (calls Γ n) (.cst (.bl true))) W) := ⟨fun pins s σ H Q I ⟨ρ, S, m, R, sr, k⟩ => pts_nil.run pins s σ H Q I (k ρ H true (Le.refl _ _) R rfl)⟩
theorem chkT_ok {X : Cx} {W : WX} {sc : Nms} (c : CK G Γ gl n N W sc X) (t : NT) : (∀ {e : Expr}, chkT N sc t e = true → PG X e (gN X.K t)) ∧ (∀ {es : List Expr}, chkTs N sc t es = true → PGs X es (gNs X.K t) ∧ es.length = ntLen t ∧ es.all plainE = true) := by
  induction t with
  | nm i =>
    refine ⟨fun {e} h => ?_, fun {es} h => by simp [chkTs] at h⟩
    unfold chkT at h
    split at h
    · rename_i x p
      simp only [Bool.and_eq_true, Bool.or_eq_true] at h
      have hi : X.N[i]? = some x := by rw [c.eN]; exact nmAt_eq h.1
      have hN : X.N.Nodup := by rw [c.eN]; exact c.nd
      rcases h.2 with q | q
      · exact pg_name hN hi (.inl (c.scr.loc x (isLoc_eq q))) (.inr (c.scr.loc x (isLoc_eq q)))
      · exact pg_name hN hi (.inr (c.scr.cel x (isCell_eq q))) (.inl (c.fn x (isCell_eq q)))
    · cases h
  | tup l ih =>
    refine ⟨fun {e} h => ?_, fun {es} h => by simp [chkTs] at h⟩
    unfold chkT at h
    split at h
    · rename_i es k p
      obtain ⟨h1, h2, h3⟩ := ih.2 h
      refine pg_tup c.calm h1 ?_ ?_
      · rw [← h2]; exact assignEach_len h3
      · exact assignEach_idx h3
    · cases h
  | nil =>
    refine ⟨fun {e} h => by simp [chkT] at h, fun {es} h => ?_⟩
    unfold chkTs at h
    split at h
    · exact ⟨pgs_nil, rfl, rfl⟩
    · cases h
  | cons a r ih1 ih2 =>
    refine ⟨fun {e} h => by simp [chkT] at h, fun {es} h => ?_⟩
    unfold chkTs at h
    split at h
    · rename_i e es
      simp only [Bool.and_eq_true] at h
      obtain ⟨h1, h2, h3⟩ := ih2.2 h.2
      refine ⟨pgs_cons (ih1.1 h.1.2) h1 (by rw [assignEach_cons h.1.1]; rfl), by rw [List.length_cons, h2]; rfl, by rw [List.all_cons, h.1.1, h3]; rfl⟩
    · cases h
set_option maxHeartbeats 1000000 in
theorem ok_all (m : ME) : (∀ {W : WX} {sc : Nms} {X : Cx} {e : Expr}, CK G Γ gl n N W sc X → chkE G.nm gl N sc m e = true → OkE G Γ n W X m e) ∧
    (∀ {W : WX} {sc : Nms} {X : Cx} {es : List Expr}, CK G Γ gl n N W sc X → chkA G.nm gl N sc m es = true → PA X es (TAs G (evA Γ (calls Γ n) m) W)) ∧
    (∀ {W : WX} {sc : Nms} {X : Cx} {ks : List Keyword}, CK G Γ gl n N W sc X → chkK G.nm gl N sc m ks = true → PK X ks (TKw G (evK Γ (calls Γ n) m) W)) ∧
    (∀ {W : WX} {sc : Nms} {X : Cx} {e : Expr} {tg : Expr}, CK G Γ gl n N W sc X → chkI G.nm gl N sc m e = true → PI X tg e (TI0 G (evI Γ (calls Γ n) m) W) ∧ setB e = false) ∧
    (∀ {W : WX} {sc : Nms} {X : Cx} {ks : List (Option Expr)} {vs : List Expr}, CK G Γ gl n N W sc X → chkP G.nm gl N sc m ks vs = true → PD X G W ks vs (evP Γ (calls Γ n) m)) := by
  have vP : ∀ {m : ME}, (∀ sc ks vs, chkP G.nm gl N sc m ks vs = false) → ∀ {W : WX} {sc : Nms} {X : Cx} {ks : List (Option Expr)} {vs : List Expr}, CK G Γ gl n N W sc X → chkP G.nm gl N sc m ks vs = true → PD X G W ks vs (evP Γ (calls Γ n) m) := fun h W sc X ks vs c z => by rw [h] at z; cases z
  have vA : ∀ {m : ME}, (∀ sc es, chkA G.nm gl N sc m es = false) → ∀ {W : WX} {sc : Nms} {X : Cx} {es : List Expr}, CK G Γ gl n N W sc X → chkA G.nm gl N sc m es = true → PA X es (TAs G (evA Γ (calls Γ n) m) W) := fun h W sc X es c z => by rw [h] at z; cases z
  have vK : ∀ {m : ME}, (∀ sc ks, chkK G.nm gl N sc m ks = false) → ∀ {W : WX} {sc : Nms} {X : Cx} {ks : List Keyword}, CK G Γ gl n N W sc X → chkK G.nm gl N sc m ks = true → PK X ks (TKw G (evK Γ (calls Γ n) m) W) := fun h W sc X es c z => by rw [h] at z; cases z
  have vI : ∀ {m : ME}, (∀ sc e, chkI G.nm gl N sc m e = false) → ∀ {W : WX} {sc : Nms} {X : Cx} {e : Expr} {tg : Expr}, CK G Γ gl n N W sc X → chkI G.nm gl N sc m e = true → PI X tg e (TI0 G (evI Γ (calls Γ n) m) W) ∧ setB e = false := fun h W sc X es _ c z => by rw [h] at z; cases z
  induction m with
  | anil =>
    refine ⟨fun {W sc X e} c h => OkE.stuck fun σ S => rfl, fun {W sc X es} c h => ?_, fun {W sc X ks} c h => ?_, vI fun _ _ => rfl, fun {W sc X ks vs} c h => ?_⟩
    · unfold chkA at h
      split at h
      · exact ja_nil fun _ _ => rfl
      · cases h
    · unfold chkK at h
      split at h
      · exact jk_nil fun _ _ => rfl
      · cases h
    · unfold chkP at h
      split at h
      · exact pd_nil fun _ _ => rfl
      · cases h
  | pcons k a r ihk iha ihr =>
    refine ⟨fun {W sc X e} c h => by simp [chkE] at h, vA fun _ _ => rfl, vK fun _ _ => rfl, vI fun _ _ => rfl, fun {W sc X ks vs} c h => ?_⟩
    unfold chkP at h
    split at h
    · simp only [Bool.and_eq_true] at h
      exact pd_cons (ihk.1 c h.1.1).pe (iha.1 c h.1.2).pe (ihr.2.2.2.2 c h.2) fun _ _ => rfl
    · cases h
  | acons a r iha ihr =>
    refine ⟨fun {W sc X e} c h => by simp [chkE] at h, fun {W sc X es} c h => ?_, vK fun _ _ => rfl, vI fun _ _ => rfl, vP fun _ _ _ => rfl⟩
    unfold chkA at h
    split at h
    · rename_i e es
      simp only [Bool.and_eq_true] at h
      exact ja_cons (iha.1 c h.1.2).pe (ihr.2.1 c h.2) (star_plain h.1.1) fun _ _ => rfl
    · cases h
  | kcons k a r iha ihr =>
    refine ⟨fun {W sc X e} c h => by simp [chkE] at h, vA fun _ _ => rfl, fun {W sc X ks} c h => ?_, vI fun _ _ => rfl, vP fun _ _ _ => rfl⟩
    unfold chkK at h
    split at h
    · simp only [Bool.and_eq_true] at h
      exact jk_cons (iha.1 c h.1.2).pe (ihr.2.2.1 c h.2) fun _ _ => rfl
    · cases h
  | iseq a ih =>
    refine ⟨fun {W sc X e} c h => by simp [chkE] at h, vA fun _ _ => rfl, vK fun _ _ => rfl, fun {W sc X e tg} c h => ?_, vP fun _ _ _ => rfl⟩
    unfold chkI at h
    simp only [Bool.and_eq_true, Bool.not_eq_true'] at h
    exact ⟨ji_seq c.K (ih.1 c h.2).pe fun _ _ => rfl, h.1⟩
  | irng1 a ih =>
    refine ⟨fun {W sc X e} c h => by simp [chkE] at h, vA fun _ _ => rfl, vK fun _ _ => rfl, fun {W sc X e tg} c h => ?_, vP fun _ _ _ => rfl⟩
    unfold chkI at h
    split at h
    · rename_i x p y q
      simp only [Bool.and_eq_true] at h
      obtain ⟨⟨⟨h1, h2⟩, h3⟩, h4⟩ := h
      have ex : x = "range" := by rw [← eqS_eq h1, rngS_eq]
      subst ex
      exact ⟨ji_rng1 (c.gli h2) c.gl.rng.1 (ja_cons (ih.1 c h4).pe (ja_nil (dA := fun _ S => .ok [] S) fun _ _ => rfl) (star_plain h3) fun _ _ => rfl) (star_plain h3) fun _ _ => rfl, rfl⟩
    · cases h
  | slot i =>
    refine ⟨fun {W sc X e} c h => ?_, vA fun _ _ => rfl, vK fun _ _ => rfl, vI fun _ _ => rfl, vP fun _ _ _ => rfl⟩
    unfold chkE at h
    split at h
    · rename_i x p
      simp only [Bool.and_eq_true] at h
      exact .of c.K (je_slot (by rw [c.eN]; exact nmAt_eq h.1.1) (c.scr.vis h.1.2) (okNm_dbg h.2) (okNm_cd h.2) fun _ _ => rfl) rfl
    · cases h
  | glob g =>
    refine ⟨fun {W sc X e} c h => ?_, vA fun _ _ => rfl, vK fun _ _ => rfl, vI fun _ _ => rfl, vP fun _ _ _ => rfl⟩
    unfold chkE at h
    split at h
    · rename_i x p
      simp only [Bool.and_eq_true] at h
      obtain ⟨⟨h1, h2⟩, h3⟩ := h
      rw [← eqS_eq h1] at h2 h3 ⊢
      cases q : Γ.con g with
      | none => exact .stuck fun σ S => by simp only [evE, q]; rfl
      | some v =>
        obtain ⟨u, w, e1, e2, e3⟩ := c.gl.con g v q
        exact .of c.K (je_c (pe_glob (c.gli h2) e1 e2 (okNm_dbg h3)) e3 fun σ S => by simp only [evE, q]; rfl) rfl
    · cases h
  | cst v =>
    refine ⟨fun {W sc X e} c h => ?_, vA fun _ _ => rfl, vK fun _ _ => rfl, vI fun _ _ => rfl, vP fun _ _ _ => rfl⟩
    unfold chkE at h
    split at h
    · rename_i x k p
      refine .of c.K ?_ rfl
      unfold cstB at h
      split at h
      · refine je_c pe_non ?_ (fun _ _ => rfl); exact fun _ _ => rfl
      · rw [eq_of_beq h]; refine je_c pe_bl ?_ (fun _ _ => rfl); exact fun _ _ => rfl
      · rw [of_decide_eq_true h]; refine je_c pe_int ?_ (fun _ _ => rfl); exact fun _ _ => rfl
      · rw [eqS_eq h]; refine je_c pe_str ?_ (fun _ _ => rfl); exact fun _ _ => rfl
      · cases h
    · cases h
  | bin op a b iha ihb =>
    refine ⟨fun {W sc X e} c h => ?_, vA fun _ _ => rfl, vK fun _ _ => rfl, vI fun _ _ => rfl, vP fun _ _ _ => rfl⟩
    unfold chkE at h
    split at h
    · simp only [Bool.and_eq_true] at h
      obtain ⟨⟨h1, h2⟩, h3⟩ := h
      rw [← of_decide_eq_true h1]
      exact .of c.K (je_bin (op_bin c.K op) (nox_binV op) (iha.1 c h2).pe (ihb.1 c h3).pe fun _ _ => rfl) rfl
    · cases h
  | neg a ih =>
    refine ⟨fun {W sc X e} c h => ?_, vA fun _ _ => rfl, vK fun _ _ => rfl, vI fun _ _ => rfl, vP fun _ _ _ => rfl⟩
    unfold chkE at h
    split at h
    · exact .of c.K (je_neg (ih.1 c h).pe fun _ _ => rfl) rfl
    · cases h
  | cmp op a b iha ihb =>
    refine ⟨fun {W sc X e} c h => ?_, vA fun _ _ => rfl, vK fun _ _ => rfl, vI fun _ _ => rfl, vP fun _ _ _ => rfl⟩
    unfold chkE at h
    split at h
    · simp only [Bool.and_eq_true, Bool.not_eq_true'] at h
      obtain ⟨⟨⟨h1, h2⟩, h3⟩, h4⟩ := h
      rw [← of_decide_eq_true h1] at h2 ⊢
      exact .test (je_cmp (op_cmp c.K c.un op) (nox_cmp op) (iha.1 c h3).pe (ihb.1 c h4).pe h2 fun _ _ => rfl) (jt_cmp c.K c.un op (iha.1 c h3).pe (ihb.1 c h4).pe h2 fun _ _ => rfl) rfl
    · cases h
  | chain o1 o2 a b d iha ihb ihd =>
    refine ⟨fun {W sc X e} c h => ?_, vA fun _ _ => rfl, vK fun _ _ => rfl, vI fun _ _ => rfl, vP fun _ _ _ => rfl⟩
    unfold chkE at h
    split at h
    · simp only [Bool.and_eq_true, Bool.not_eq_true'] at h
      obtain ⟨⟨⟨⟨⟨h1, h2⟩, h3⟩, h4⟩, h5⟩, h6⟩ := h
      rw [← of_decide_eq_true h1, ← of_decide_eq_true h2] at h3 ⊢
      obtain ⟨q1, q2⟩ := je_chain (W := W) (o1 := o1) (o2 := o2) c.K c.un (iha.1 c h4).pe (ihb.1 c h5).pe (ihd.1 c h6).pe h3 fun _ _ => rfl
      exact .test q1 q2 rfl
    · cases h
  | and a b iha ihb =>
    refine ⟨fun {W sc X e} c h => ?_, vA fun _ _ => rfl, vK fun _ _ => rfl, vI fun _ _ => rfl, vP fun _ _ _ => rfl⟩
    unfold chkE at h
    split at h
    · rename_i x y p
      simp only [Bool.and_eq_true] at h
      have A := iha.1 c h.1
      have B := ihb.1 c h.2
      have w := jw_and (pos := p) A.pt (pw_and1 B.pt) (d := evE Γ (calls Γ n) (.and a b)) (tst_and fun _ _ => rfl)
      exact ⟨je_and c.K A.pe (pe_one B.pe) fun _ _ => rfl, w.pt, fun _ => w⟩
    · rename_i x y z r p
      simp only [Bool.and_eq_true] at h
      have A := iha.1 c h.1
      have B := ihb.1 c h.2
      have w := jw_and (pos := p) A.pt (B.pw rfl) (d := evE Γ (calls Γ n) (.and a b)) (tst_and fun _ _ => rfl)
      exact ⟨je_and c.K A.pe B.pe fun _ _ => rfl, w.pt, fun _ => w⟩
    · cases h
  | or a b iha ihb =>
    refine ⟨fun {W sc X e} c h => ?_, vA fun _ _ => rfl, vK fun _ _ => rfl, vI fun _ _ => rfl, vP fun _ _ _ => rfl⟩
    unfold chkE at h
    split at h
    · rename_i x y p
      simp only [Bool.and_eq_true] at h
      have A := iha.1 c h.1
      have B := ihb.1 c h.2
      have w := jw_or (pos := p) A.pt (pw_or1 B.pt) (d := evE Γ (calls Γ n) (.or a b)) (tst_or fun _ _ => rfl)
      exact ⟨je_or c.K A.pe (pe_one B.pe) fun _ _ => rfl, w.pt, fun _ => w⟩
    · rename_i x y z r p
      simp only [Bool.and_eq_true] at h
      have A := iha.1 c h.1
      have B := ihb.1 c h.2
      have w := jw_or (pos := p) A.pt (B.pw rfl) (d := evE Γ (calls Γ n) (.or a b)) (tst_or fun _ _ => rfl)
      exact ⟨je_or c.K A.pe B.pe fun _ _ => rfl, w.pt, fun _ => w⟩
    · cases h
  | not a ih =>
    refine ⟨fun {W sc X e} c h => ?_, vA fun _ _ => rfl, vK fun _ _ => rfl, vI fun _ _ => rfl, vP fun _ _ _ => rfl⟩
    unfold chkE at h
    split at h
    · exact .test (je_not c.K (ih.1 c h).pe fun _ _ => rfl) (jt_not (ih.1 c h).pt (tst_not fun _ _ => rfl)) rfl
    · cases h
  | ife t a b iht iha ihb =>
    refine ⟨fun {W sc X e} c h => ?_, vA fun _ _ => rfl, vK fun _ _ => rfl, vI fun _ _ => rfl, vP fun _ _ _ => rfl⟩
    unfold chkE at h
    split at h
    · simp only [Bool.and_eq_true] at h
      obtain ⟨⟨h1, h2⟩, h3⟩ := h
      exact .test (je_ife (iht.1 c h1).pt (iha.1 c h2).pe (ihb.1 c h3).pe (bind_ife fun _ _ => rfl)) (jt_ife (iht.1 c h1).pt (iha.1 c h2).pt (ihb.1 c h3).pt (tst_ife fun _ _ => rfl)) rfl
    · cases h
  | tup es ih =>
    refine ⟨fun {W sc X e} c h => ?_, vA fun _ _ => rfl, vK fun _ _ => rfl, vI fun _ _ => rfl, vP fun _ _ _ => rfl⟩
    unfold chkE at h
    split at h
    · simp only [Bool.and_eq_true] at h
      have := of_decide_eq_true h.1
      exact .of c.K (je_tup (ih.2.1 c h.2) (fun m S v S1 q => by rw [evA_len _ h.2 q]; unfold lim; omega) fun _ _ => rfl) rfl
    · cases h
  | lst es ih =>
    refine ⟨fun {W sc X e} c h => ?_, vA fun _ _ => rfl, vK fun _ _ => rfl, vI fun _ _ => rfl, vP fun _ _ _ => rfl⟩
    unfold chkE at h
    split at h
    · simp only [Bool.and_eq_true] at h
      have := of_decide_eq_true h.1
      exact .of c.K (je_lst (ih.2.1 c h.2) (fun m S v S1 q => by rw [evA_len _ h.2 q]; unfold lim; omega) fun _ _ => rfl) rfl
    · cases h
  | ix a i iha ihi =>
    refine ⟨fun {W sc X e} c h => ?_, vA fun _ _ => rfl, vK fun _ _ => rfl, vI fun _ _ => rfl, vP fun _ _ _ => rfl⟩
    unfold chkE at h
    split at h
    · simp only [Bool.and_eq_true] at h
      exact .of c.K (je_ix c.K (iha.1 c h.1.2).pe (ihi.1 c h.2).pe (plainIxB_ok h.1.1) fun _ _ => rfl) rfl
    · cases h
  | attr o f ih =>
    refine ⟨fun {W sc X e} c h => ?_, vA fun _ _ => rfl, vK fun _ _ => rfl, vI fun _ _ => rfl, vP fun _ _ _ => rfl⟩
    unfold chkE at h
    split at h
    · simp only [Bool.and_eq_true] at h
      rw [← eqS_eq h.1.1]
      exact .of c.K (je_attr c.K c.hcc (ih.1 c h.2).pe (base_of h.1.2) fun _ _ => rfl) rfl
    · cases h
  | call g as ks iha ihk =>
    refine ⟨fun {W sc X e} c h => ?_, vA fun _ _ => rfl, vK fun _ _ => rfl, vI fun _ _ => rfl, vP fun _ _ _ => rfl⟩
    unfold chkE at h
    split at h
    · simp only [Bool.and_eq_true] at h
      obtain ⟨⟨⟨⟨⟨h1, h2⟩, h3⟩, h4⟩, h5⟩, h6⟩ := h
      rw [← eqS_eq h2] at h3 h4 ⊢
      exact .of c.K (je_call c.hr c.hg c.hc c.hcl c.tk (c.gli h3) (c.gl.fn g h1).1 (c.gl.fn g h1).2 (okNm_dbg h4) (iha.2.1 c h5) (ihk.2.2.1 c h6) (chkA_plain _ h5) (chkK_some _ h6) (fun z => by subst z; exact chkA_nil h5) (fun m S ys S2 q => chkK_keys _ h6 q) fun _ _ => rfl) rfl
    · cases h
  | blt b as ks iha ihk =>
    refine ⟨fun {W sc X e} c h => ?_, vA fun _ _ => rfl, vK fun _ _ => rfl, vI fun _ _ => rfl, vP fun _ _ _ => rfl⟩
    unfold chkE at h
    split at h
    · rename_i x p a es q
      simp only [Bool.and_eq_true] at h
      obtain ⟨⟨⟨h1, h2⟩, h3⟩, h4⟩ := h
      rw [← eqS_eq h1] at h2 ⊢
      cases ks with
      | anil =>
        have hp := chkA_plain _ h4
        rw [List.all_cons, Bool.and_eq_true] at hp
        exact .of c.K (je_blt c.K c.calm c.hg c.un b (c.gli h2) (c.gl.blt b) (iha.2.1 c h4) (star_plain hp.1) (star_any hp.2) fun _ _ => rfl) rfl
      | _ => cases h3
    · cases h
  | isi a cc ih =>
    refine ⟨fun {W sc X e} c h => ?_, vA fun _ _ => rfl, vK fun _ _ => rfl, vI fun _ _ => rfl, vP fun _ _ _ => rfl⟩
    unfold chkE at h
    split at h
    · rename_i x p y z p2 p3
      simp only [Bool.and_eq_true] at h
      obtain ⟨⟨⟨⟨⟨⟨h1, h2⟩, h3⟩, h4⟩, h5⟩, h6⟩, h7⟩ := h
      have ex : x = "isinstance" := by rw [← eqS_eq h1, isiS_eq]
      subst ex
      have hcl : PE X (.Name z p2) (tC (clV G cc)) := by
        cases cc with
        | own g =>
          rw [Bool.and_eq_true] at h6
          rw [← eqS_eq h6.2] at h4 h5 ⊢
          exact pe_glob (c.gli h4) (c.gl.fn g h6.1).1 rfl (okNm_dbg h5)
        | _ =>
          rw [← eqS_eq h6] at h4 h5 ⊢
          exact pe_bltn (c.gli h4) (c.gl.cl _ rfl) (by decide +kernel) rfl (by decide +kernel) (okNm_dbg h5)
      exact .of c.K (je_isi c.K c.hcc (c.gli h2) c.gl.rng.2.2.2 (ih.1 c h7).pe hcl h3 rfl fun _ _ => rfl) rfl
    · cases h
  | dsp kvs ih =>
    refine ⟨fun {W sc X e} c h => ?_, vA fun _ _ => rfl, vK fun _ _ => rfl, vI fun _ _ => rfl, vP fun _ _ _ => rfl⟩
    unfold chkE at h
    split at h
    · rename_i ks vs p
      simp only [Bool.and_eq_true] at h
      have h15 := of_decide_eq_true h.1
      have D := ih.2.2.2.2 c h.2
      cases ks with
      | nil =>
        have : vs = [] := by have := D.len; simpa using this.symm
        subst this
        refine .of c.K (je_dnew fun m S => ?_) rfl
        cases kvs with
        | anil => rfl
        | _ => first | (simp [chkP] at h; done) | exact absurd h.2 (by simp [chkP])
      | cons k ks => exact .of c.K (je_dsp D (by simp) h15 (fun m S ps S1 q => by rw [evP_len _ h.2 q]; exact h15) fun _ _ => rfl) rfl
    · cases h
  | meth mm o as ks iho iha ihk =>
    refine ⟨fun {W sc X e} c h => ?_, vA fun _ _ => rfl, vK fun _ _ => rfl, vI fun _ _ => rfl, vP fun _ _ _ => rfl⟩
    unfold chkE at h
    split at h
    · simp only [Bool.and_eq_true] at h
      obtain ⟨⟨⟨⟨⟨⟨h1, h2⟩, h3⟩, h4⟩, h5⟩, h6⟩, h7⟩ := h
      rw [← eqS_eq h1]
      refine .of c.K (je_meth c.K c.hr c.hg c.hc c.hcl c.hcc c.tk (fun kd k b q => c.gl.bm mm kd k b q) (iho.1 c h5).pe (base_of h2) (iha.2.1 c h6) (ihk.2.2.1 c h7) (chkA_plain _ h6) (chkK_some _ h7) (fun z => by subst z; exact chkA_nil h6) (fun m S ys S2 q => chkK_keys _ h7 q) (nk := isNilA ks) (fun z => chkK_nil h7 z) (of_decide_eq_true h3) h4 fun m S => rfl) rfl
    · cases h
  | comp own t it cnd elt ihi ihc ihe =>
    refine ⟨fun {W sc X e} c h => ?_, vA fun _ _ => rfl, vK fun _ _ => rfl, vI fun _ _ => rfl, vP fun _ _ _ => rfl⟩
    unfold chkE at h
    split at h
    · rename_i el tg iter ifs as scope p
      simp only [Bool.and_eq_true] at h
      obtain ⟨⟨⟨⟨⟨⟨h0, h2⟩, h3⟩, h4⟩, h5⟩, h6⟩, h7⟩ := h
      have e0 : as = 0 := of_decide_eq_true h0
      subst e0
      have hk : scope.kind = .function := (blkB_ok c.scr h2).kind
      refine .of c.K ?_ rfl
      obtain ⟨hI, hset⟩ := ihi.2.2.2.1 (tg := tg) c h5
      refine je_comp (dc := evE Γ (calls Γ n) cnd) (de := evE Γ (calls Γ n) elt) (t := t) c.K c.calm (by rw [c.eN]; exact c.nd) hI (own := ownP N own) (by rw [c.eN]; exact blkB_ok c.scr h2) ?_ (fun s H C cl fp => (chkT_ok (c.blk hk s H C cl fp) t).1 h4) (fun s H C cl fp => ?_) (fun s H C cl fp => (ihe.1 (c.blk hk s H C cl fp) h7).pe) (setB_ok hset X.env) fun m S => by rw [ownP_snd]; rfl
      · intro i hi
        rw [ownP_snd]
        rw [List.all_eq_true] at h3
        exact List.contains_iff_mem.mp (h3 i hi)
      · split at h6
        · unfold isTrueC at h6
          split at h6
          · exact pts_true
          · cases h6
        · exact pts_one (ihc.1 (c.blk hk s H C cl fp) h6).pt
        · cases h6
    · cases h
  | _ => exact ⟨fun {W sc X e} c h => by simp [chkE] at h, vA fun _ _ => rfl, vK fun _ _ => rfl, vI fun _ _ => rfl, vP fun _ _ _ => rfl⟩
end
end FE
/-! FEq: statements: the checker and the theorem. -/
namespace FE
open PySem L2 PySem.Spec

def compB : Expr → Bool
  | .ListComp _ _ _ _ => true
  | .SetComp _ _ _ _ => true
  | .DictComp _ _ _ _ _ => true
  | _ => false
def nameB : Expr → Bool
  | .Name _ _ => true
  | _ => false
def tupB : Expr → Bool
  | .Tuple _ _ _ => true
  | .List _ _ => true
  | _ => false
def foldB (u v : Expr) : Bool := ([u, v].all (foldedForSure 8)) || ([u, v].all (constantsAlone 8))
section
variable (nm : Nat → Str) (gl : Nat → Bool) (N : List Str)
mutual
def chkG (sc : Nms) : Tg → Expr → Bool
  | .nm i, e => match e with
    | .Name x _ => nmAt N i x && (isLoc (look x sc) || isCell (look x sc))
    | _ => false
  | .sub o i, e => match e with
    | .Subscript x y _ => plainIxB y && chkE nm gl N sc o x && chkE nm gl N sc i y
    | _ => false
  | .tup l, e => match e with
    | .Tuple es _ _ => chkGs sc l es
    | _ => false
  | _, _ => false
def chkGs (sc : Nms) : Tg → List Expr → Bool
  | .nil, es => match es with
    | [] => true
    | _ => false
  | .cons h t, es => match es with
    | e :: es => plainE e && chkG sc h e && chkGs sc t es
    | [] => false
  | _, _ => false
end
def chkAsg (sc : Nms) (t : Tg) (e : ME) (tg v : Expr) : Bool := match t, tg with
  | .attr o f, .Attribute x a _ => eqS (nm f) a && chkE nm gl N sc o x && chkE nm gl N sc e v
  | t, tg => match v with
    | .ListComp el gens scope cp => (match t, tg, e with
      | .nm i, .Name x p, .comp _ _ _ _ _ => nmAt N i x && isLoc (look x sc) && (p.line == cp.line) && !(scope.names.any fun y => eqS y.1 x && (isLoc (some y.2) || isCell (some y.2))) && chkE nm gl N sc e v
      | _, _, _ => false)
    | v => !compB v && (!tupB tg || !tupB v) && plainE tg && chkG nm gl N sc t tg && chkE nm gl N sc e v
mutual
def chk1 (sc : Nms) : MS → Stmt → Bool
  | .bad, _ => true
  | .skip, st => match st with
    | .Pass _ => true
    | .Expr (.Constant (.str _) _ _) _ => true
    | _ => false
  | .expr e, st => match st with
    | .Expr v _ => !compB v && chkE nm gl N sc e v
    | _ => false
  | .asg t e, st => match st with
    | .Assign [tg] v _ => chkAsg nm gl N sc t e tg v
    | _ => false
  | .asg2 t u e, st => match st with
    | .Assign [t1, t2] v _ => plainE t1 && plainE t2 && chkG nm gl N sc t t1 && chkG nm gl N sc u t2 && chkE nm gl N sc e v
    | _ => false
  | .par i j a b, st => match st with
    | .Assign [.Tuple [.Name x px, .Name y py] _ _] (.Tuple [u, v] _ _) _ => nmAt N i x && nmAt N j y && !Nat.beq i j && !eqS x y && isLoc (look x sc) && isLoc (look y sc) && (py.line == px.line) && !foldB u v && plainE u && plainE v && chkE nm gl N sc a u && chkE nm gl N sc b v
    | _ => false
  | .aug i e, st => match st with
    | .AugAssign (.Name x _) .Add v _ => nmAt N i x && (isLoc (look x sc) || isCell (look x sc)) && chkE nm gl N sc e v
    | _ => false
  | .augf o f e, st => match st with
    | .AugAssign (.Attribute x a _) .Add v _ => eqS (nm f) a && chkE nm gl N sc o x && chkE nm gl N sc e v
    | _ => false
  | .ret e, st => match st with
    | .Return (some v) _ => chkE nm gl N sc e v
    | _ => false
  | .retn, st => match st with
    | .Return none _ => true
    | _ => false
  | .ife c a b, st => match st with
    | .If t x y _ => chkE nm gl N sc c t && chkS sc a x && chkS sc b y
    | _ => false
  | .forr t it b, st => match st with
    | .For tg iter body [] _ => chkT N sc t tg && chkI nm gl N sc it iter && chkS sc b body
    | _ => false
  | .whil c b, st => match st with
    | .While t body [] _ => chkE nm gl N sc c t && chkS sc b body
    | _ => false
  | _, _ => false
def chkS (sc : Nms) : MS → List Stmt → Bool
  | .skip, l => match l with
    | [] => true
    | _ => false
  | .seq a b, l => match l with
    | st :: r => chk1 sc a st && chkS sc b r
    | [] => false
  | _, _ => false
end
end
theorem swaps_no {tg a : Expr} {l : Nat} {env : Env} (h : compB a = false ∨ nameB tg = false) : swapsWithSole [tg] a l env = pure false := by
  show swapsWith a (some tg) l env = pure false
  cases a with
  | ListComp _ _ _ _ =>
    rcases h with h | h
    · cases h
    · cases tg <;> first | rfl | cases h
  | SetComp _ _ _ _ =>
    rcases h with h | h
    · cases h
    · cases tg <;> first | rfl | cases h
  | DictComp _ _ _ _ _ =>
    rcases h with h | h
    · cases h
    · cases tg <;> first | rfl | cases h
  | _ => rfl
theorem swaps_none {a : Expr} {l : Nat} {env : Env} (h : compB a = false) : swapsWith a none l env = pure false := by
  cases a <;> first | rfl | cases h
theorem stores_no {tg a : Expr} {env : Env} (h : tupB tg = false ∨ tupB a = false) : swappedStores [tg] a env = pure none := by
  cases tg with
  | Tuple ts k p =>
    rcases h with h | h
    · cases h
    · cases a <;> first | rfl | cases h
  | List ts p =>
    rcases h with h | h
    · cases h
    · cases a <;> first | rfl | cases h
  | _ => rfl
theorem stores_two (t1 t2 a : Expr) (env : Env) : swappedStores [t1, t2] a env = pure none := by
  cases t1 <;> first | rfl | (cases a <;> rfl)
theorem stores_pair {x y : Str} {px py pt pt2 : Pos} {kt k2 : Nat} {u v : Expr} {env : Env} (hk : env.scope.kind = .function) (hx : env.scope.names.lookup x = some .local) (hy : env.scope.names.lookup y = some .local) (hxy : eqS x y = false) (hl : (py.line == px.line) = true)
    (hf : foldB u v = false) (hu : plainE u = true) (hv : plainE v = true) : swappedStores [.Tuple [.Name x px, .Name y py] kt pt] (.Tuple [u, v] k2 pt2) env = pure (some [x, y]) := by
  have hb : env.blockKind = .function := by unfold Env.blockKind; rw [hk]; rfl
  have kx : env.kindOf x = some .local := hx
  have ky : env.kindOf y = some .local := hy
  unfold foldB at hf
  rw [Bool.or_eq_false_iff] at hf
  have hxy' : ¬ y = x := fun z => by rw [z, eqS_self] at hxy; cases hxy
  have hl' : py.line = px.line := eq_of_beq hl
  have e2 : ([x, y] : List Str).eraseDups.length = 2 := by
    rw [List.eraseDups_cons]
    simp [List.eraseDups_cons, hxy']
  unfold swappedStores
  simp only [hb, hf.1, hf.2, Expr.pos]
  simp [hl, Expr.pos]
  rw [if_neg (by
    rintro (h | h)
    · cases u <;> first | (cases h; done) | (cases hu; done)
    · cases v <;> first | (cases h; done) | (cases hv; done))]
  simp [List.filterMap_cons, kx, ky, hl', e2]
section
variable {G : GI} {Γ : Prog} {gl : Nat → Bool} {n : Nat} {N : List Str}
structure CKS (G : GI) (Γ : Prog) (gl : Nat → Bool) (n : Nat) (N : List Str) (W : WX) (sc : Nms) (X : Cx) : Prop extends CK G Γ gl n N W sc X where
  pass : PassesOwn (model X.prog X.w) X.A X.env X.xe
theorem tgLen_of (l : Tg) : ∀ {sc : Nms} {es : List Expr}, chkGs G.nm gl N sc l es = true → tgLen l = es.length := by
  induction l with
  | nil =>
    intro sc es h
    unfold chkGs at h
    split at h
    · rfl
    · cases h
  | cons a r _ ih =>
    intro sc es h
    unfold chkGs at h
    split at h
    · simp only [Bool.and_eq_true] at h
      show tgLen r + 1 = _
      rw [ih h.2, List.length_cons]
    · cases h
  | _ => intro sc es h; simp [chkGs] at h
theorem tgs_len {X : Cx} {W : WX} {es : List Expr} {d : List MV → Slots → Store → SR} {k : Nat} (h : PGs X es (TGts G d W)) : PGs X es (TGts G (fun xs m S => if xs.length = k then d xs m S else .stuck) W) :=
  h.imp fun v σ H Q ⟨ρ, S, m, mv, D, R, sr, hv, k, kq⟩ => by
    simp only at k
    split at k
    · exact ⟨ρ, S, m, mv, D, R, sr, hv, k, kq⟩
    · exact k.elim
theorem chkG_ok {X : Cx} {W : WX} {sc : Nms} (c : CK G Γ gl n N W sc X) (t : Tg) : (∀ {e : Expr}, chkG G.nm gl N sc t e = true → PG X e (TGt G (fun v m S => setT Γ (calls Γ n) t v m S) W)) ∧
    (∀ {es : List Expr}, chkGs G.nm gl N sc t es = true → PGs X es (TGts G (fun v m S => setTs Γ (calls Γ n) t v m S) W) ∧ es.all plainE = true) := by
  induction t with
  | nm i =>
    refine ⟨fun {e} h => ?_, fun {es} h => by simp [chkGs] at h⟩
    unfold chkG at h
    split at h
    · rename_i x p
      simp only [Bool.and_eq_true, Bool.or_eq_true] at h
      have hi : X.N[i]? = some x := by rw [c.eN]; exact nmAt_eq h.1
      have hN : X.N.Nodup := by rw [c.eN]; exact c.nd
      rcases h.2 with q | q
      · exact jg_nm hN hi (.inl (c.scr.loc x (isLoc_eq q))) (.inr (c.scr.loc x (isLoc_eq q))) fun _ _ _ => rfl
      · exact jg_nm hN hi (.inr (c.scr.cel x (isCell_eq q))) (.inl (c.fn x (isCell_eq q))) fun _ _ _ => rfl
    · cases h
  | sub o i =>
    refine ⟨fun {e} h => ?_, fun {es} h => by simp [chkGs] at h⟩
    unfold chkG at h
    split at h
    · rename_i x y p
      simp only [Bool.and_eq_true] at h
      exact jg_sub ((ok_all o).1 c h.1.2).pe ((ok_all i).1 c h.2).pe (by have := h.1.1; cases y <;> first | rfl | cases this) fun _ _ _ => rfl
    · cases h
  | tup l ih =>
    refine ⟨fun {e} h => ?_, fun {es} h => by simp [chkGs] at h⟩
    unfold chkG at h
    split at h
    · rename_i es k p
      obtain ⟨h1, h2⟩ := ih.2 h
      exact jg_tup (dL := fun xs m S => if xs.length = es.length then setTs Γ (calls Γ n) l xs m S else .stuck) (n := es.length) c.K c.calm (tgs_len h1) (assignEach_len h2) (assignEach_idx h2) (fun xs m S q => by rw [if_neg q]) (fun xs m S => by rw [← tgLen_of l h]; rfl) fun v m S q => by
        cases v with
        | tup xs => exact (q xs rfl).elim
        | _ => rfl
    · cases h
  | nil =>
    refine ⟨fun {e} h => by simp [chkG] at h, fun {es} h => ?_⟩
    unfold chkGs at h
    split at h
    · exact ⟨jgs_nil (fun _ _ => rfl) fun _ _ _ _ => rfl, rfl⟩
    · cases h
  | cons a r ih1 ih2 =>
    refine ⟨fun {e} h => by simp [chkG] at h, fun {es} h => ?_⟩
    unfold chkGs at h
    split at h
    · rename_i e es
      simp only [Bool.and_eq_true] at h
      obtain ⟨h1, h2⟩ := ih2.2 h.2
      exact ⟨jgs_cons (ih1.1 h.1.2) h1 (by rw [assignEach_cons h.1.1]; rfl) (fun _ _ _ _ => rfl) fun _ _ => rfl, by rw [List.all_cons, h.1.1, h2]; rfl⟩
    · cases h
  | attr o f => exact ⟨fun {e} h => by simp [chkG] at h, fun {es} h => by simp [chkGs] at h⟩
theorem chkAsg_ok {X : Cx} {W : WX} {sc : Nms} (c : CK G Γ gl n N W sc X) {t : Tg} {e : ME} {tg v : Expr} {pos : Pos} (h : chkAsg G.nm gl N sc t e tg v = true) : PS X (.Assign [tg] v pos) (TSt G (evS Γ (calls Γ n) (.asg t e)) W) := by
  unfold chkAsg at h
  split at h
  · rename_i o f x a p
    simp only [Bool.and_eq_true] at h
    rw [← eqS_eq h.1.1]
    exact js_fld c.hcc ((ok_all o).1 c h.1.2).pe ((ok_all e).1 c h.2).pe (by cases v <;> rfl) fun _ _ => rfl
  · split at h
    · rename_i el gens scope cp
      split at h
      · rename_i i x p own nt it cnd elt _
        simp only [Bool.and_eq_true] at h
        obtain ⟨⟨⟨⟨h1, h2⟩, h3⟩, h4⟩, h5⟩ := h
        unfold chkE at h5
        split at h5
        · rename_i el2 tg iter ifs as scope2 p2 heq
          cases heq
          simp only [Bool.and_eq_true] at h5
          obtain ⟨⟨⟨⟨⟨⟨g0, g2⟩, g3⟩, g4⟩, g5⟩, g6⟩, g7⟩ := h5
          have e0 : as = 0 := of_decide_eq_true g0
          subst e0
          have hk : scope.kind = .function := (blkB_ok c.scr g2).kind
          obtain ⟨hI, hset⟩ := (ok_all it).2.2.2.1 (tg := tg) c g5
          refine js_setComp (da := evE Γ (calls Γ n) (.comp own nt it cnd elt)) (dT := evE Γ (calls Γ n) cnd) (de := evE Γ (calls Γ n) elt) (t := nt) c.K ?_ c.calm (by rw [c.eN]; exact c.nd) (by rw [c.eN]; exact nmAt_eq h1) (c.scr.loc x (isLoc_eq h2)) c.kind h3 ?_ hI (own := ownP N own) (by rw [c.eN]; exact blkB_ok c.scr g2)
            (fun s H C cl fp => (chkT_ok (c.blk hk s H C cl fp) nt).1 g4) (fun s H C cl fp => ?_) (fun s H C cl fp => ((ok_all elt).1 (c.blk hk s H C cl fp) g7).pe) (setB_ok hset X.env) (fun m S => by rw [ownP_snd]; rfl) fun m S => rfl
          · intro i hi
            rw [ownP_snd]
            rw [List.all_eq_true] at g3
            exact List.contains_iff_mem.mp (g3 i hi)
          · rw [Bool.not_eq_true'] at h4
            rw [← h4]
            congr 1
            funext y
            obtain ⟨a, k⟩ := y
            show (a == x && (k == .local || k == .cell)) = _
            rw [eqS_beq]
            cases k <;> rfl
          · split at g6
            · unfold isTrueC at g6
              split at g6
              · exact pts_true
              · cases g6
            · exact pts_one ((ok_all cnd).1 (c.blk hk s H C cl fp) g6).pt
            · cases g6
        · cases h5
      · cases h
    · simp only [Bool.and_eq_true, Bool.or_eq_true, Bool.not_eq_true'] at h
      obtain ⟨⟨⟨⟨h1, h2⟩, h3⟩, h4⟩, h5⟩ := h
      exact js_asg ((ok_all e).1 c h5).pe ((chkG_ok c t).1 h4) (swaps_no (.inl h1)) (stores_no h2) (by rw [assignEach_cons h3]; rfl) fun _ _ => rfl
theorem ok_st (s : MS) : (∀ {W : WX} {sc : Nms} {X : Cx} {st : Stmt}, CKS G Γ gl n N W sc X → chk1 G.nm gl N sc s st = true → PS X st (TSt G (evS Γ (calls Γ n) s) W)) ∧
    (∀ {W : WX} {sc : Nms} {X : Cx} {sts : List Stmt}, CKS G Γ gl n N W sc X → chkS G.nm gl N sc s sts = true → PSs X sts (TSt G (evS Γ (calls Γ n) s) W)) := by
  have vS : ∀ {s : MS}, (∀ sc l, chkS G.nm gl N sc s l = false) → ∀ {W : WX} {sc : Nms} {X : Cx} {sts : List Stmt}, CKS G Γ gl n N W sc X → chkS G.nm gl N sc s sts = true → PSs X sts (TSt G (evS Γ (calls Γ n) s) W) := fun h W sc X es c z => by rw [h] at z; cases z
  induction s with
  | bad => exact ⟨fun {W sc X st} c h => js_stuck fun _ _ => rfl, vS fun _ _ => rfl⟩
  | skip =>
    refine ⟨fun {W sc X st} c h => ?_, fun {W sc X sts} c h => ?_⟩
    · unfold chk1 at h
      split at h
      · exact js_pass fun _ _ => rfl
      · exact js_doc fun _ _ => rfl
      · cases h
    · unfold chkS at h
      split at h
      · exact js_skip fun _ _ => rfl
      · cases h
  | seq a b iha ihb =>
    refine ⟨fun {W sc X st} c h => by simp [chk1] at h, fun {W sc X sts} c h => ?_⟩
    unfold chkS at h
    split at h
    · simp only [Bool.and_eq_true] at h
      exact js_seq (iha.1 c h.1) (ihb.2 c h.2) fun _ _ => rfl
    · cases h
  | expr e =>
    refine ⟨fun {W sc X st} c h => ?_, vS fun _ _ => rfl⟩
    unfold chk1 at h
    split at h
    · simp only [Bool.and_eq_true, Bool.not_eq_true'] at h
      exact js_expr ((ok_all e).1 c.toCK h.2).pe (swaps_none h.1) fun _ _ => rfl
    · cases h
  | asg t e =>
    refine ⟨fun {W sc X st} c h => ?_, vS fun _ _ => rfl⟩
    unfold chk1 at h
    split at h
    · exact chkAsg_ok c.toCK h
    · cases h
  | asg2 t u e =>
    refine ⟨fun {W sc X st} c h => ?_, vS fun _ _ => rfl⟩
    unfold chk1 at h
    split at h
    · simp only [Bool.and_eq_true] at h
      obtain ⟨⟨⟨⟨h1, h2⟩, h3⟩, h4⟩, h5⟩ := h
      exact js_asg2 ((ok_all e).1 c.toCK h5).pe ((chkG_ok c.toCK t).1 h3) ((chkG_ok c.toCK u).1 h4) (by rw [assignEach_cons h1, assignEach_cons h2]; rfl) (stores_two _ _ _ _) fun _ _ => rfl
    · cases h
  | par i j a b =>
    refine ⟨fun {W sc X st} c h => ?_, vS fun _ _ => rfl⟩
    unfold chk1 at h
    split at h
    · rename_i x px y py k1 p1 u v k2 p2 p3
      simp only [Bool.and_eq_true, Bool.not_eq_true'] at h
      obtain ⟨⟨⟨⟨⟨⟨⟨⟨⟨⟨⟨h1, h2⟩, h3⟩, h4⟩, h5⟩, h6⟩, h7⟩, h8⟩, h9⟩, h10⟩, h11⟩, h12⟩ := h
      have hx := c.scr.loc x (isLoc_eq h5)
      have hy := c.scr.loc y (isLoc_eq h6)
      exact js_par c.calm (by rw [c.eN]; exact c.nd) (by rw [c.eN]; exact nmAt_eq h1) (by rw [c.eN]; exact nmAt_eq h2) (Nat.ne_of_beq_eq_false h3) hx hy
        (ja_cons ((ok_all a).1 c.toCK h11).pe (ja_cons (dA := fun m S => (evE Γ (calls Γ n) b m S).bind fun w S2 => .ok [w] S2) ((ok_all b).1 c.toCK h12).pe (ja_nil (dA := fun _ S => .ok [] S) fun _ _ => rfl) (star_plain h10) fun _ _ => rfl) (star_plain h9) fun _ _ => rfl)
        (fun m S => by
          cases evE Γ (calls Γ n) a m S with
          | ok v S1 =>
            simp only [Out.bind_ok]
            cases evE Γ (calls Γ n) b m S1 <;> rfl
          | exc e S1 => rfl
          | stuck => rfl) (stores_pair c.kind hx hy h4 h7 h8 h9 h10) fun _ _ => rfl
    · cases h
  | aug i e =>
    refine ⟨fun {W sc X st} c h => ?_, vS fun _ _ => rfl⟩
    unfold chk1 at h
    split at h
    · rename_i x p v p2
      simp only [Bool.and_eq_true, Bool.or_eq_true] at h
      have hi : X.N[i]? = some x := by rw [c.eN]; exact nmAt_eq h.1.1
      have hN : X.N.Nodup := by rw [c.eN]; exact c.nd
      rcases h.1.2 with q | q
      · exact js_aug hN hi (.inl (c.scr.loc x (isLoc_eq q))) (.inr (c.scr.loc x (isLoc_eq q))) ((ok_all e).1 c.toCK h.2).pe fun _ _ => rfl
      · exact js_aug hN hi (.inr (c.scr.cel x (isCell_eq q))) (.inl (c.fn x (isCell_eq q))) ((ok_all e).1 c.toCK h.2).pe fun _ _ => rfl
    · cases h
  | augf o f e =>
    refine ⟨fun {W sc X st} c h => ?_, vS fun _ _ => rfl⟩
    unfold chk1 at h
    split at h
    · simp only [Bool.and_eq_true] at h
      rw [← eqS_eq h.1.1]
      exact js_augf c.hcc ((ok_all o).1 c.toCK h.1.2).pe ((ok_all e).1 c.toCK h.2).pe fun _ _ => rfl
    · cases h
  | ret e =>
    refine ⟨fun {W sc X st} c h => ?_, vS fun _ _ => rfl⟩
    unfold chk1 at h
    split at h
    · exact js_ret ((ok_all e).1 c.toCK h).pe fun _ _ => rfl
    · cases h
  | retn =>
    refine ⟨fun {W sc X st} c h => ?_, vS fun _ _ => rfl⟩
    unfold chk1 at h
    split at h
    · exact js_retn fun _ _ => rfl
    · cases h
  | ife t a b iha ihb =>
    refine ⟨fun {W sc X st} c h => ?_, vS fun _ _ => rfl⟩
    unfold chk1 at h
    split at h
    · simp only [Bool.and_eq_true] at h
      exact js_if ((ok_all t).1 c.toCK h.1.1).pt (iha.2 c h.1.2) (ihb.2 c h.2) fun _ _ => rfl
    · cases h
  | forr t it b ihb =>
    refine ⟨fun {W sc X st} c h => ?_, vS fun _ _ => rfl⟩
    unfold chk1 at h
    split at h
    · rename_i tg iter body p
      simp only [Bool.and_eq_true] at h
      obtain ⟨hI, hset⟩ := (ok_all it).2.2.2.1 (tg := tg) c.toCK h.1.2
      exact js_for c.K c.pass c.calm hI ((chkT_ok c.toCK t).1 h.1.1) (ihb.2 c h.2) (setB_ok hset X.env) fun _ _ => rfl
    · cases h
  | whil t b ihb =>
    refine ⟨fun {W sc X st} c h => ?_, vS fun _ _ => rfl⟩
    unfold chk1 at h
    split at h
    · simp only [Bool.and_eq_true] at h
      exact js_while c.pass ((ok_all t).1 c.toCK h.1).pt (ihb.2 c h.2) fun _ _ => rfl
    · cases h
  | _ => exact ⟨fun {W sc X st} c h => by simp [chk1] at h, vS fun _ _ => rfl⟩
end
end FE
/-! FEr: defs keep what the evaluator says; the law's end. -/
namespace FE
open PySem L2 PySem.Spec PyProof.Rows

/-! ### defs -/
/-- a def of the text, its form checked -/
structure DefOk (G : GI) (gl : Nat → Bool) (K : PySem.W.Frag) (g : Nat) (d : MDef) : Prop where
  ex : ∃ (name qual : Str) (params : Arguments) (body : List Stmt) (scope : Scope) (dV kV doc pm cdv ct oc : Value) (an od : Option Addr) (osl : Array (Option Value)) (N : List Str) (dv : Nat → Value),
    K.lookup (G.ad g) = some ⟨oc, od, .func (PySem.W.fnOf name qual params body scope dV kV doc pm an cdv ct), osl⟩ ∧ PySem.W.codeIn K cdv qual = true ∧ FnScope N (parNames G d) scope ∧ N.length = d.size ∧
      DefAt G K d (G.ad g) (PySem.W.fnOf name qual params body scope dV kV doc pm an cdv ct) dv ∧ chkS G.nm gl N scope.names d.body body = true
section
variable {G : GI} {Γ : Prog} {gl : Nat → Bool} {P : Program} {w : World} {mg : Str → Option Value} {base : Heap}
theorem callsAt (hcl : ClsAt G Γ G.K) (hcc : ClssK G Γ G.K) (hgl : GlOk G Γ gl G.K mg) (hd : ∀ g d, Γ.fn g = some d → DefOk G gl G.K g d) : ∀ n m, m ≤ n → CallsAt G Γ P w G.K mg base m
  | 0, m, hm => by
    intro g d ed
    obtain ⟨name, qual, params, body, scope, dV, kV, doc, pm, cdv, ct, oc, an, od, osl, N, dv, lk, hcd, S, hN, D, hb⟩ := (hd g d ed).ex
    refine ⟨_, dv, D, ?_⟩
    intro A outer s H args us vs Q E hr hg e0 hbi r hl ⟨ρ, S0, as, R, hv, k⟩
    have em : m = 0 := by omega
    subst em
    exact k.elim
  | n + 1, m, hm => by
    by_cases hm' : m ≤ n
    · exact callsAt hcl hcc hgl hd n m hm'
    · have em : m = n + 1 := by omega
      subst em
      intro g d ed
      obtain ⟨name, qual, params, body, scope, dV, kV, doc, pm, cdv, ct, oc, an, od, osl, N, dv, lk, hcd, S, hN, D, hb⟩ := (hd g d ed).ex
      refine ⟨_, dv, D, fnC_of lk hcd S fun A outer s H vs Q E hr hg hlen ⟨ρ, S0, as, R, hv, k⟩ => ?_⟩
      have ck : CKS G Γ gl n N (fun cls d _ H => E cls d H) scope.names (cxOf (L2.CX P w) P w G.K mg base N qual scope (G.ad g) cdv A outer s H E) := {
        K := rfl
        eN := rfl
        nd := S.nd
        hr := hr
        hg := hg
        hc := fun m hm => callsAt hcl hcc hgl hd n m hm
        hcl := hcl
        hcc := hcc
        gl := hgl
        tk := takes_of rfl rfl rfl rfl
        calm := rfl
        kind := S.kind
        scr := ScR.self scope
        fn := fun _ _ => rfl
        pass := passes_of rfl }
      refine ⟨_, (ok_st d.body).2 ck hb, ρ, S0, startM d.size as, R, ?_, ?_⟩
      · have hle : as.length = vs.length := hv.length
        refine ⟨by rw [← hN]; simp [startM, L2.start, hle], fun i v e => ?_⟩
        unfold startM at e
        by_cases hi : i < as.length
        · rw [List.getElem?_append_left (by simpa using hi), List.getElem?_map] at e
          cases q : as[i]? with
          | none => rw [q] at e; cases e
          | some x =>
            rw [q] at e
            cases e
            obtain ⟨u, e1, e2⟩ := hv.get q
            refine ⟨u, ?_, e2⟩
            unfold L2.start
            rw [List.getElem?_append_left (by simpa [← hle] using hi), List.getElem?_map, e1]
            rfl
        · rw [List.getElem?_append_right (by simpa using Nat.le_of_not_lt hi)] at e
          have := List.mem_of_getElem? e
          rw [List.mem_replicate] at this
          cases this.2
      · have k2 : K1 G ρ H (runD Γ (calls Γ n) d as S0) (RV G) Q (exE G E) := by
          have e : full Γ (n + 1) g as S0 = runD Γ (calls Γ n) d as S0 := by simp only [full, ed]
          rw [← e]; exact k
        unfold runD at k2
        cases q : evS Γ (calls Γ n) d.body (startM d.size as) S0 with
        | nx m' S1 => rw [q] at k2; exact fun ρ' H' σ' l R' _ => k2 ρ' H' .non l R' rfl
        | rt v m' S1 => rw [q] at k2; exact fun ρ' H' v' l R' hv' => k2 ρ' H' v' l R' hv'
        | exc e m' S1 => rw [q] at k2; exact fun ρ' H' σ' l R' _ => k2 ρ' H' l R'
        | stuck => rw [q] at k2; exact k2.elim
end
/-! ### the head's facts -/
def noLists (K : PySem.W.Frag) : Bool := K.all fun p => match p.2.cls with
  | .type n => !(n == "list")
  | _ => true
abbrev AlF : Type := He.AlD × Bool
def obsF (ex : PySem.W.Frag → Bool) (fa : List He.Fa) (fn : List He.DefD) (K : PySem.W.Frag) : AlF := (He.obsD fa fn K, noLists K && ex K)
def SaysF (ex : PySem.W.Frag → Bool) (fa : List He.Fa) (fn : List He.DefD) (K : PySem.W.Frag) : Prop := obsF ex fa fn K = (He.valD fn, true)
def obsFG (n : Nat) (ex : PySem.W.Frag → Bool) (fa : List He.Fa) (fn : List He.DefD) (g : Addr → Option Obj) : AlF := obsF ex fa fn (He.frG g (He.asD g n))
def hookF (n : Nat) (ex : PySem.W.Frag → Bool) (fa : List He.Fa) (fn : List He.DefD) : PySem.W.Hook where
  α := AlF
  obs := fun s => obsFG n ex fa fn s.heap.get?
  val := fun _ => (He.valD fn, true)
  says := fun _ h => ∃ K : PySem.W.Frag, K.In h ∧ SaysF ex fa fn K
  of := fun _ _ e => ⟨_, He.frG_in, e⟩
  keeps := fun _ _ _ ⟨K, hK, c⟩ k => ⟨K, PySem.W.Frag.In.keeps hK k, c⟩
theorem obsFG_eq {n : Nat} {ex : PySem.W.Frag → Bool} {fa : List He.Fa} {fn : List He.DefD} {g : Addr → Option Obj} {s : Shared} (h : ∀ a, g a = s.heap.get? a) : obsFG n ex fa fn g = (hookF n ex fa fn).obs s := by
  obtain rfl : g = s.heap.get? := funext h
  rfl
theorem SaysF.d {ex : PySem.W.Frag → Bool} {fa : List He.Fa} {fn : List He.DefD} {K : PySem.W.Frag} (c : SaysF ex fa fn K) : He.SaysD fa fn K := congrArg Prod.fst c
theorem SaysF.x {ex : PySem.W.Frag → Bool} {fa : List He.Fa} {fn : List He.DefD} {K : PySem.W.Frag} (c : SaysF ex fa fn K) : noLists K = true ∧ ex K = true := by
  have : (noLists K && ex K) = true := congrArg Prod.snd c
  rwa [Bool.and_eq_true] at this
theorem noList_at {K : PySem.W.Frag} (c : noLists K = true) {a : Addr} {o : Obj} (h : K.lookup a = some o) (l : o.cls = .type "list") : False := by
  unfold noLists at c
  rw [List.all_eq_true] at c
  have gen : ∀ l : PySem.W.Frag, l.lookup a = some o → (a, o) ∈ l := by
    intro l
    induction l with
    | nil => intro z; cases z
    | cons p r ih =>
      obtain ⟨b, x⟩ := p
      intro z
      rw [List.lookup_cons] at z
      cases q : a == b with
      | true =>
        rw [q] at z
        cases z
        rw [eq_of_beq q]
        exact List.mem_cons_self
      | false => rw [q] at z; exact List.mem_cons_of_mem _ (ih z)
  have := c _ (gen K h)
  simp only [l] at this
  exact absurd this (by decide)
/-! ### the law's end -/
/-- the script alone is tracked -/
def scrH (a : Addr) (u : HO) : Hp := fun b => if b = a then some u else none
theorem scrH_self {a : Addr} {u : HO} : scrH a u a = some u := if_pos rfl
theorem scrH_some {a b : Addr} {u x : HO} (h : scrH a u b = some x) : b = a ∧ x = u := by
  unfold scrH at h
  split at h
  · rename_i e; cases h; exact ⟨e, rfl⟩
  · cases h
theorem ints_rel {G : GI} {ρ : List Addr} {H : Hp} : ∀ l : List Int, VRels G ρ H (l.map MV.int) (l.map V.int)
  | [] => rfl
  | x :: l => ⟨_, _, rfl, rfl, ints_rel l⟩
/-- a law's def that answers True at every script -/
theorem law_goes {G : GI} {Γ : Prog} {g n : Nat} {P : Program} {w : World} {mg mb : Str → Option Value} {x : Str} {h1 : Shared} {a : Addr} {vs : List Value} {ns : List Int} (KX : G.K.In h1.heap) (nl : noLists G.K = true)
    (hm : h1.heap.Ns mainGlobals mg) (hb : h1.heap.Ns builtinsNs mb) (hbb : ∀ y : Str, y ≠ "__name__" → mb y = bootBuiltins y) (hlim : h1.heap.NoLimit) (hgen : h1.gens = #[]) (hobj : h1.heap.get? a = some { cls := .type "list", data := .seq vs.toArray })
    (hints : IntsAre vs ns) (hlen : ns.length ≤ 63) (hr : Room n callerA)
    (F : ∀ base : Heap, G.K.In base → base.Ns mainGlobals mg → ∃ fd : FuncData, BindsTo h1 fd ⟨[.ref a], []⟩ [(x, .ref a)] ∧ FnC P w G.K mg base n (G.ad g) fd [x] (spF G (full Γ n g)))
    (law : ∀ l : List Int, l.length ≤ 63 → ∃ S', full Γ n g [.ref 0] [.lk (.lst (l.map MV.int))] = .ok (.bl true) S') :
    codeAny (model P w) callerA (.call (.ref (G.ad g)) ⟨[.ref a], []⟩) (fun r s' => r = .ok (.ret (.bool true)) ∧ OldK h1.heap s'.heap ∧ s'.os = h1.os ∧ AllBare s'.gens) h1 := by
  have hsz : ns.length ≤ sizeLine := by have := lim_le; unfold lim at this; omega
  let ob : Obj := { cls := .type "list", data := .seq vs.toArray }
  let H : Hp := scrH a (.frz ob (.lst (ns.map V.int)))
  have nK : ∀ o, G.K.lookup a ≠ some o := fun o e => noList_at nl e (by have := KX a o e; rw [hobj] at this; cases this; rfl)
  have hH : HOk P w H h1.heap := fun b u z => by
    obtain ⟨rfl, rfl⟩ := scrH_some z
    exact ⟨hobj, by rw [List.length_map]; exact hsz, vs, _, vals_ints hints, hobj⟩
  -- what is no list stands in the ground
  have low : ∀ {b : Addr} {o : Obj}, h1.heap.get? b = some o → b ≠ a → (hidT h1.heap H).get? b = some o := fun {b o} e nb => hidT_get e (if_neg nb)
  have nsp : ∀ {b : Addr} {m : Str → Option Value}, h1.heap.Ns b m → (hidT h1.heap H).Ns b m := fun {b m} z => by
    obtain ⟨o, es, ep, e, d, r⟩ := z
    refine ⟨o, es, ep, low e ?_, d, r⟩
    rintro rfl
    rw [hobj] at e
    cases e
    cases d
  have hK : G.K.In (hidT h1.heap H) := fun b o e => low (KX b o e) (by rintro rfl; exact nK o e)
  have hM : Mod G.K mg (hidT h1.heap H) := by
    obtain ⟨mc, l1, l2⟩ := hlim
    exact ⟨hK, nsp hm, ⟨mb, nsp hb, hbb⟩, mc, nsp l1, l2⟩
  have e0 : Env0 P w G.K mg (hidT h1.heap H) callerA [] h1 H :=
    { frames := rfl, mod := hM, bs := fun b o e => of_hidT e, bsz := Nat.le_of_eq (hidT_size _ _), funs := trivial, frf := fun b z => (List.not_mem_nil z).elim, hok := hH, bare := .of_eq hgen }
  have R : Rel G [a] [.lk (.lst (ns.map MV.int))] H := by
    refine ⟨rfl, by simp, fun i b o hb ho => ?_, fun b xs z => ?_⟩
    · cases i with
      | zero =>
        cases hb
        cases ho
        exact ⟨ob, _, scrH_self, _, rfl, ints_rel ns⟩
      | succ i => cases hb
    · obtain ⟨_, q⟩ := scrH_some z
      cases q
  obtain ⟨S', e⟩ := law ns hlen
  have sp : spF G (full Γ n g) [.ref a] H (fun v _ => v = .bl true) fun _ _ _ => False := by
    refine ⟨[a], _, [.ref 0], R, ⟨_, _, rfl, ⟨a, rfl, rfl⟩, rfl⟩, ?_⟩
    rw [e]
    exact fun ρ' H' v' l R' hv => hv
  obtain ⟨fd, hbi, F⟩ := F _ hK (nsp hm)
  refine codeAny_mono (F callerA [] h1 H ⟨[.ref a], []⟩ [.ref a] [.ref a] _ _ hr rfl e0 hbi (.cons rfl .nil) rfl sp) fun r s' q => ?_
  cases r with
  | error e =>
    obtain ⟨_, _, _, _, _, _, _, _, _, _, _, _, z⟩ := q
    cases z
  | ok fl =>
    cases fl with
    | ret u =>
      obtain ⟨v, H', os, bare, un, ok', rv, z⟩ := q
      cases z
      cases rv
      refine ⟨rfl, OldK.of_keep fun b o eb => ?_, os, bare⟩
      by_cases hba : b = a
      · subst hba
        obtain ⟨e1, _⟩ := ok' b _ (un.frzs b ob _ scrH_self)
        rw [hobj] at eb
        cases eb
        exact e1
      · exact un.keep b o eb (if_neg hba) (List.not_mem_nil) List.not_mem_nil
    | next => exact q.elim
    | brk => exact q.elim
    | cont => exact q.elim
end FE
/-! FEs: a law's table: its check gives all that the law's end asks. -/
namespace FE
open PySem L2 PySem.Spec PyProof.Rows

structure Ent where
  d : MDef
  N : List Str
  D : He.DefD
structure Tab where
  nms : List Str
  defs : List (Nat × Ent)
  clss : List (Nat × MCls)
  cons : List (Nat × MV)
def lk {α : Type} (i : Nat) : List (Nat × α) → Option α
  | [] => none
  | (j, x) :: l => match Nat.beq i j with
    | true => some x
    | false => lk i l
theorem lk_mem {α : Type} {i : Nat} {x : α} : ∀ {l : List (Nat × α)}, lk i l = some x → (i, x) ∈ l
  | [], h => by cases h
  | (j, y) :: l, h => by
    unfold lk at h
    split at h
    · rename_i e
      cases h
      rw [Nat.eq_of_beq_eq_true e]
      exact List.mem_cons_self
    · exact List.mem_cons_of_mem _ (lk_mem h)
def nmOf (nms : List Str) (i : Nat) : Str := match nms[i]? with
  | some x => x
  | none => ⟨#[0, i]⟩
def noZero (x : Str) : Bool := match x.cps.toList with
  | 0 :: _ => false
  | _ => true
def nodupB : List Str → Bool
  | [] => true
  | x :: l => !memS x l && nodupB l
theorem nodupB_ok : ∀ {l : List Str}, nodupB l = true → l.Nodup
  | [], _ => .nil
  | x :: l, h => by
    unfold nodupB at h
    rw [Bool.and_eq_true, Bool.not_eq_true'] at h
    rw [List.nodup_cons]
    refine ⟨fun z => ?_, nodupB_ok h.2⟩
    have h1 := h.1
    rw [memS_iff.mpr z] at h1
    cases h1
def nmsB (nms : List Str) : Bool := nodupB nms && nms.all noZero
theorem nm_inj {nms : List Str} (h : nmsB nms = true) (a b : Nat) (e : nmOf nms a = nmOf nms b) : a = b := by
  unfold nmsB at h
  rw [Bool.and_eq_true, List.all_eq_true] at h
  have nd := nodupB_ok h.1
  have nz : ∀ {i : Nat} {x : Str} (k : Nat), nms[i]? = some x → x = ⟨#[0, k]⟩ → False := fun {i x} k e1 e2 => by
    have := h.2 x (List.mem_of_getElem? e1)
    rw [e2] at this
    cases this
  unfold nmOf at e
  cases qa : nms[a]? with
  | some x =>
    cases qb : nms[b]? with
    | some y =>
      rw [qa, qb] at e
      have e' : x = y := e
      subst e'
      have ha := (List.getElem?_eq_some_iff.mp qa)
      have hb := (List.getElem?_eq_some_iff.mp qb)
      obtain ⟨ha1, ha2⟩ := ha
      obtain ⟨hb1, hb2⟩ := hb
      exact (List.getElem_inj nd).mp (ha2.trans hb2.symm)
    | none => rw [qa, qb] at e; exact (nz b qa e).elim
  | none =>
    cases qb : nms[b]? with
    | some y => rw [qa, qb] at e; exact (nz a qb e.symm).elim
    | none => rw [qa, qb] at e; simpa using e
namespace Tab
def nm (T : Tab) : Nat → Str := nmOf T.nms
def prog (T : Tab) : Prog := ⟨fun g => lk g T.cons, fun g => (lk g T.defs).map (·.d), fun g => lk g T.clss⟩
def adOf (T : Tab) (K : PySem.W.Frag) (g : Nat) : Addr := match lk g T.defs with
  | some e => He.fAd K e.D.at_
  | none => He.ga K (T.nm g)
def isGl (T : Tab) (g : Nat) : Bool := match lk g T.defs with
  | some e => (match e.D.at_.2 with
    | none => true
    | some _ => false)
  | none => (lk g T.clss).isSome
def fn (T : Tab) : List He.DefD := T.defs.map fun p => p.2.D
/-- builtins' names -/
def bltAll : List Blt := [.len, .abs, .max, .min, .all, .any, .int, .str, .repr, .list, .tuple, .dict, .sorted, .sum, .divmod, .set]
def frees : List Str := bltAll.map bltNm ++ (["bool", "range", "enumerate", "zip", "isinstance"] : List Str)
def faDef (p : Nat × Ent) : List He.Fa := match p.2.D.at_.2 with
  | none => [.glo p.2.D.at_.1]
  | some _ => []
def faCls (T : Tab) (p : Nat × MCls) : List He.Fa := [.glo (T.nm p.1), .keep (T.nm p.1), .cls (T.nm p.1), .mkr (T.nm p.1)] ++ p.2.flds.map (fun f => .noat (T.nm p.1) (T.nm f)) ++ p.2.meths.map fun q => .meth (T.nm p.1) (T.nm q.1)
def faCon (T : Tab) (p : Nat × MV) : List He.Fa := match p.2 with
  | .int i => [.int (T.nm p.1) i]
  | .str x => [.str (T.nm p.1) x]
  | _ => []
def fa (T : Tab) : List He.Fa := frees.map He.Fa.free ++ T.defs.flatMap faDef ++ T.clss.flatMap T.faCls ++ T.cons.flatMap T.faCon
def oneB (K : PySem.W.Frag) (t c : Value) (b : Bool) : Bool := match PySem.W.kitOne K t c with
  | some r => r == b
  | none => false
/-- what isinstance asks of a class, seen -/
def isB1 (T : Tab) (K : PySem.W.Frag) (g : Nat) : Bool :=
  He.eqO (PySem.W.findIn K (.ref (T.adOf K g)) "__class__") (some (some (.builtin "object.__class__"))) && He.eqO (PySem.W.specialIn K (.builtin "object.__class__") "__get__") (some (some (.builtin "getset_descriptor.__get__"))) &&
    decide (PySem.W.takesIn K (.builtin "object.__class__") = some true) && decide (PySem.W.mroIn K (T.adOf K g) (.type "object") = some true) && (tyBlt.all fun t => oneB K (tyVal t) (.ref (T.adOf K g)) false) && (clBlt.all fun c => oneB K (.ref (T.adOf K g)) (clVal c) false) &&
    T.clss.all fun p => Nat.beq p.1 g || oneB K (.ref (T.adOf K g)) (.ref (T.adOf K p.1)) false
def ex (T : Tab) (K : PySem.W.Frag) : Bool := T.clss.all fun p => T.isB1 K p.1
/-! ### the check -/
def isSnd (c : Str) (m : Str) : Str × Option Str → Bool
  | (x, some y) => eqS x c && eqS y m
  | _ => false
def scB (N ps : List Str) (sc : Scope) : Bool :=
  (match sc.kind with
    | .function => true
    | _ => false) && !sc.isCoroutine && !sc.isGenerator && nodupB N && decide (N.take ps.length = ps) && (ps.all fun x => isLoc (look x sc.names) || isCell (look x sc.names)) && sc.names.all fun y => match y.2 with
    | .free => false
    | _ => true
def argB (T : Tab) (d : MDef) (a : Arguments) : Bool := a.posonlyargs.isEmpty && a.vararg.isNone && a.kwarg.isNone && a.kwonlyargs.isEmpty && decide (a.args.map (·.arg) = d.pos.map T.nm) && d.kwo.isEmpty && nodupB ((d.pos ++ d.kwo.map (·.1)).map T.nm)
def defB (T : Tab) (p : Nat × Ent) : Bool := (match p.2.D.at_ with
    | (x, none) => eqS x (T.nm p.1)
    | _ => true) && p.2.D.dfl.isEmpty && T.argB p.2.d p.2.D.params && scB p.2.N ((p.2.d.pos ++ p.2.d.kwo.map (·.1)).map T.nm) p.2.D.scope && Nat.beq p.2.N.length p.2.d.size && chkS T.nm T.isGl p.2.N p.2.D.scope.names p.2.d.body p.2.D.body
def clsB (T : Tab) (p : Nat × MCls) : Bool := (lk p.1 T.defs).isNone && (match lk p.2.init T.defs with
    | some e => isSnd (T.nm p.1) "__init__" e.D.at_
    | none => false) && p.2.meths.all fun q => match lk q.2 T.defs with
    | some e => isSnd (T.nm p.1) (T.nm q.1) e.D.at_
    | none => false
def conB (p : Nat × MV) : Bool := match p.2 with
  | .int _ => true
  | .str _ => true
  | _ => false
/-- the builtin methods' names -/
def bmsB (T : Tab) : Bool := eqS (T.nm 1) "join" && eqS (T.nm 2) "append" && eqS (T.nm 3) "extend" && eqS (T.nm 4) "pop" && eqS (T.nm 5) "clear"
def chk (T : Tab) : Bool := nmsB T.nms && T.bmsB && T.defs.all T.defB && T.clss.all T.clsB && T.cons.all conB
end Tab
def Tab.gi (T : Tab) (h : nmsB T.nms = true) (K : PySem.W.Frag) : GI := ⟨K, T.nm, T.adOf K, nm_inj h⟩
section
variable {T : Tab} {K : PySem.W.Frag}
theorem scB_ok {N ps : List Str} {sc : Scope} (h : Tab.scB N ps sc = true) : FnScope N ps sc := by
  unfold Tab.scB at h
  simp only [Bool.and_eq_true, Bool.not_eq_true'] at h
  obtain ⟨⟨⟨⟨⟨⟨h1, h2⟩, h3⟩, h4⟩, h5⟩, h6⟩, h7⟩ := h
  refine ⟨?_, h2, h3, nodupB_ok h4, of_decide_eq_true h5, fun x hx => ?_, fun y hy e => ?_⟩
  · split at h1
    · assumption
    · cases h1
  · rw [List.all_eq_true] at h6
    have := h6 x hx
    rw [Bool.or_eq_true] at this
    rw [look_eq]
    rcases this with q | q
    · exact .inl (isLoc_eq q)
    · exact .inr (isCell_eq q)
  · rw [List.all_eq_true] at h7
    have := h7 y hy
    simp only [e] at this
    cases this
theorem isSnd_eq {c m : Str} {p : Str × Option Str} (h : Tab.isSnd c m p = true) : p = (c, some m) := by
  obtain ⟨x, y⟩ := p
  cases y with
  | none => cases h
  | some y =>
    have h' : (eqS x c && eqS y m) = true := h
    rw [Bool.and_eq_true] at h'
    rw [eqS_eq h'.1, eqS_eq h'.2]
theorem fact_of {ex : PySem.W.Frag → Bool} {fa : List He.Fa} {fn : List He.DefD} (c : SaysF ex fa fn K) {f : He.Fa} (h : f ∈ fa) : f.ok K = true := by
  obtain ⟨i, hi, e⟩ := List.getElem_of_mem h
  exact c.d.fact i (by rw [List.getElem?_eq_getElem hi, e])
theorem defD_of {ex : PySem.W.Frag → Bool} {fa : List He.Fa} {fn : List He.DefD} (c : SaysF ex fa fn K) {d : He.DefD} (h : d ∈ fn) : ∃ fd, FunD K d.name d.qual d.params d.body d.scope (d.dvs K) (d.kws K) (He.fAd K d.at_) fd := by
  obtain ⟨i, hi, e⟩ := List.getElem_of_mem h
  exact c.d.def_ i (by rw [List.getElem?_eq_getElem hi, e])
theorem chk_parts (h : T.chk = true) : nmsB T.nms = true ∧ T.bmsB = true ∧ (∀ p ∈ T.defs, T.defB p = true) ∧ (∀ p ∈ T.clss, T.clsB p = true) ∧ ∀ p ∈ T.cons, Tab.conB p = true := by
  unfold Tab.chk at h
  simp only [Bool.and_eq_true, List.all_eq_true] at h
  exact ⟨h.1.1.1.1, h.1.1.1.2, h.1.1.2, h.1.2, h.2⟩
variable (hn : nmsB T.nms = true)
theorem tab_defs (h : T.chk = true) (c : SaysF T.ex T.fa T.fn K) (g : Nat) (d : MDef) (e : T.prog.fn g = some d) : DefOk (T.gi hn K) T.isGl K g d := by
  obtain ⟨_, _, hd, _, _⟩ := chk_parts h
  have e' : (lk g T.defs).map (·.d) = some d := e
  rw [Option.map_eq_some_iff] at e'
  obtain ⟨en, e1, rfl⟩ := e'
  have hm := lk_mem e1
  have b := hd _ hm
  unfold Tab.defB at b
  simp only [Bool.and_eq_true] at b
  obtain ⟨⟨⟨⟨⟨b1, b2⟩, b3⟩, b4⟩, b5⟩, b6⟩ := b
  obtain ⟨fd, F⟩ := defD_of c (d := en.D) (List.mem_map.mpr ⟨(g, en), hm, rfl⟩)
  obtain ⟨oc, od, dV, kV, doc, pm, an, cdv, ct, osl, rfl, lkK, hcd, hdf, hkw⟩ := F.ex
  unfold Tab.argB at b3
  simp only [Bool.and_eq_true, List.isEmpty_iff, Option.isNone_iff_eq_none] at b3 b2
  obtain ⟨⟨⟨⟨⟨⟨a1, a2⟩, a3⟩, a4⟩, a5⟩, a6⟩, a7⟩ := b3
  have ead : (T.gi hn K).ad g = He.fAd K en.D.at_ := by
    show T.adOf K g = _
    unfold Tab.adOf
    rw [e1]
  have hdV : dV = .none := by
    unfold He.DefD.dvs at hdf
    rw [b2] at hdf
    rcases hdf with ⟨_, q⟩ | ⟨q, _⟩
    · exact q
    · exact (q rfl).elim
  subst hdV
  refine ⟨_, _, _, _, _, _, _, _, _, _, _, _, _, _, _, en.N, fun _ => .none, by rw [ead]; exact lkK, hcd, scB_ok b4, Nat.eq_of_beq_eq_true b5, ⟨⟨a1, a2, a3, rfl, of_decide_eq_true a5, ?_, ?_, nodupB_ok a7⟩, ?_, by rw [ead]; exact F.kp⟩, b6⟩
  · show en.D.params.kwonlyargs.map (·.arg) = _
    rw [a4, a6]
    rfl
  · rw [a6]
    intro q hq
    cases hq
  · rw [a6]
    intro q hq
    cases hq
theorem tab_cls (h : T.chk = true) (c : SaysF T.ex T.fa T.fn K) : ClsAt (T.gi hn K) T.prog K := by
  intro g cd hg e
  have e' : lk g T.clss = some cd := e
  obtain ⟨_, _, _, hcl, _⟩ := chk_parts h
  have hm := lk_mem e'
  have b := hcl _ hm
  unfold Tab.clsB at b
  simp only [Bool.and_eq_true] at b
  obtain ⟨⟨b1, b2⟩, b3⟩ := b
  have f : (He.Fa.mkr (T.nm g)).ok K = true := fact_of c (by
    unfold Tab.fa
    refine List.mem_append_left _ (List.mem_append_right _ (List.mem_flatMap.mpr ⟨_, hm, ?_⟩))
    unfold Tab.faCls
    simp)
  split at b2
  · rename_i en e2
    have ea : (T.gi hn K).ad g = He.ga K (T.nm g) := by
      show T.adOf K g = _
      unfold Tab.adOf
      rw [Option.isNone_iff_eq_none.mp b1]
    have ei : (T.gi hn K).ad cd.init = He.ma K (He.ga K (T.nm g)) "__init__" := by
      show T.adOf K cd.init = _
      unfold Tab.adOf
      rw [e2]
      show He.fAd K en.D.at_ = _
      rw [isSnd_eq b2]
      rfl
    rw [ea, ei]
    refine ⟨He.mkr_ok f, en.d, ?_⟩
    show (lk cd.init T.defs).map (·.d) = _
    rw [e2]
    rfl
  · cases b2
theorem oneB_ok {t c : Value} {b : Bool} (h : Tab.oneB K t c b = true) : PySem.W.kitOne K t c = some b := by
  unfold Tab.oneB at h
  split at h
  · rename_i r e; rw [e, eq_of_beq h]
  · cases h
theorem tab_clss (h : T.chk = true) (c : SaysF T.ex T.fa T.fn K) : ClssK (T.gi hn K) T.prog K := by
  intro g cd e
  have e' : lk g T.clss = some cd := e
  obtain ⟨_, _, _, hcl, _⟩ := chk_parts h
  have hm := lk_mem e'
  have b := hcl _ hm
  unfold Tab.clsB at b
  simp only [Bool.and_eq_true, List.all_eq_true] at b
  obtain ⟨⟨b1, b2⟩, b3⟩ := b
  have ea : (T.gi hn K).ad g = He.ga K (T.nm g) := by
    show T.adOf K g = _
    unfold Tab.adOf
    rw [Option.isNone_iff_eq_none.mp b1]
  have inF : ∀ {f : He.Fa}, f ∈ T.faCls (g, cd) → f.ok K = true := fun {f} hf => fact_of c (by
    unfold Tab.fa
    exact List.mem_append_left _ (List.mem_append_right _ (List.mem_flatMap.mpr ⟨_, hm, hf⟩)))
  refine ⟨?_, fun f hf => ?_, fun q hq => ?_, ?_⟩
  · rw [ea]
    exact He.cls_ok (inF (by unfold Tab.faCls; simp))
  · rw [ea]
    exact He.noat_ok (inF (by unfold Tab.faCls; exact List.mem_append_left _ (List.mem_append_right _ (List.mem_map.mpr ⟨f, hf, rfl⟩))))
  · have b4 := b3 q hq
    split at b4
    · rename_i en e2
      have em : (T.gi hn K).ad q.2 = He.ma K (He.ga K (T.nm g)) (T.nm q.1) := by
        show T.adOf K q.2 = _
        unfold Tab.adOf
        rw [e2]
        show He.fAd K en.D.at_ = _
        rw [isSnd_eq b4]
        rfl
      rw [ea, em]
      exact He.meth_ok (inF (by unfold Tab.faCls; exact List.mem_append_right _ (List.mem_map.mpr ⟨q, hq, rfl⟩)))
    · cases b4
  · have x := c.x.2
    unfold Tab.ex at x
    rw [List.all_eq_true] at x
    have x1 := x _ hm
    unfold Tab.isB1 at x1
    simp only [Bool.and_eq_true, List.all_eq_true, Bool.or_eq_true] at x1
    obtain ⟨⟨⟨⟨⟨⟨y1, y2⟩, y3⟩, y4⟩, y5⟩, y6⟩, y7⟩ := x1
    refine ⟨He.eqO_ok y1, (He.eqO_ok y2).symm, (of_decide_eq_true y3).symm, of_decide_eq_true y4, fun t ht => oneB_ok (y5 t ht), fun c hc => oneB_ok (y6 c hc), fun g' c' e2 ne => ?_⟩
    rcases y7 _ (lk_mem (show lk g' T.clss = some c' from e2)) with z | z
    · exact (ne (Nat.eq_of_beq_eq_true z)).elim
    · exact oneB_ok z
theorem tab_gl (h : T.chk = true) (c : SaysF T.ex T.fa T.fn K) {hp : Heap} {mg : Str → Option Value} (X : K.In hp) (Gm : hp.Ns mainGlobals mg) : GlOk (T.gi hn K) T.prog T.isGl K mg := by
  obtain ⟨_, hb, hd, hcl, hco⟩ := chk_parts h
  have fr : ∀ x ∈ Tab.frees, mg x = none := fun x hx => He.free_ok X Gm (fact_of c (by
    unfold Tab.fa
    exact List.mem_append_left _ (List.mem_append_left _ (List.mem_append_left _ (List.mem_map.mpr ⟨x, hx, rfl⟩)))))
  have ball : ∀ b : Blt, b ∈ Tab.bltAll := fun b => by cases b <;> simp [Tab.bltAll]
  refine ⟨fun g hg => ?_, fun g v e => ?_, fun b => fr _ (List.mem_append_left _ (List.mem_map.mpr ⟨b, ball b, rfl⟩)), fun cc hcc => fr _ (by cases cc <;> first | (cases hcc; done) | (unfold Tab.frees Tab.bltAll; simp [clNm, bltNm])), ⟨fr _ ?_, fr _ ?_, fr _ ?_, fr _ ?_⟩, fun m kd k b e => ?_⟩
  · show mg (T.nm g) = some (.ref (T.adOf K g)) ∧ PySem.W.keepIn K (.ref (T.adOf K g)) = true
    unfold Tab.isGl at hg
    unfold Tab.adOf
    cases e : lk g T.defs with
    | some en =>
      rw [e] at hg
      have hm := lk_mem e
      have b := hd _ hm
      unfold Tab.defB at b
      simp only [Bool.and_eq_true] at b
      obtain ⟨⟨⟨⟨⟨b1, b2⟩, b3⟩, b4⟩, b5⟩, b6⟩ := b
      obtain ⟨fd, F⟩ := defD_of c (d := en.D) (List.mem_map.mpr ⟨(g, en), hm, rfl⟩)
      refine ⟨?_, F.kp⟩
      simp only at hg
      show mg (T.nm g) = some (.ref (He.fAd K en.D.at_))
      cases q : en.D.at_ with
      | mk x y =>
        cases y with
        | some y => rw [q] at hg; cases hg
        | none =>
          rw [q] at b1
          have f : (He.Fa.glo x).ok K = true := fact_of c (by
            unfold Tab.fa
            refine List.mem_append_left _ (List.mem_append_left _ (List.mem_append_right _ (List.mem_flatMap.mpr ⟨_, hm, ?_⟩)))
            unfold Tab.faDef
            rw [q]
            exact List.mem_singleton.mpr rfl)
          rw [← eqS_eq b1]
          exact He.glo_ok X Gm f
    | none =>
      rw [e] at hg
      obtain ⟨cd, e2⟩ := Option.isSome_iff_exists.mp hg
      have hm := lk_mem e2
      have inF : ∀ {f : He.Fa}, f ∈ T.faCls (g, cd) → f.ok K = true := fun {f} hf => fact_of c (by
        unfold Tab.fa
        exact List.mem_append_left _ (List.mem_append_right _ (List.mem_flatMap.mpr ⟨_, hm, hf⟩)))
      exact ⟨He.glo_ok X Gm (inF (by unfold Tab.faCls; simp)), He.keep_ok (inF (by unfold Tab.faCls; simp))⟩
  · have e' : lk g T.cons = some v := e
    have hm := lk_mem e'
    have b := hco _ hm
    have inF : ∀ {f : He.Fa}, f ∈ T.faCon (g, v) → f.ok K = true := fun {f} hf => fact_of c (by
      unfold Tab.fa
      exact List.mem_append_right _ (List.mem_flatMap.mpr ⟨_, hm, hf⟩))
    cases v with
    | int i =>
      obtain ⟨t, e3⟩ := He.int_ok X Gm (inF (f := .int (T.nm g) i) (List.mem_singleton.mpr rfl))
      exact ⟨_, .int i, e3, ⟨t, rfl⟩, fun _ _ => by rfl⟩
    | str x =>
      obtain ⟨t, e3⟩ := He.str_ok X Gm (inF (f := .str (T.nm g) x) (List.mem_singleton.mpr rfl))
      exact ⟨_, .str x, e3, ⟨t, rfl⟩, fun _ _ => by rfl⟩
    | _ => cases b
  · exact List.mem_append_right _ (by simp)
  · exact List.mem_append_right _ (by simp)
  · exact List.mem_append_right _ (by simp)
  · exact List.mem_append_right _ (by simp)
  · unfold Tab.bmsB at hb
    simp only [Bool.and_eq_true] at hb
    show T.nm m = _
    unfold bmOf at e
    split at e <;> first | (cases e; first | exact eqS_eq hb.1.1.1.1 | exact eqS_eq hb.1.1.1.2 | exact eqS_eq hb.1.1.2 | exact eqS_eq hb.1.2 | exact eqS_eq hb.2) | cases e
end
end FE
/-! FEt: a law from its table. -/
namespace FE
open PySem L2 PySem.Spec PyProof.Rows

/-- the end of every law: its table checked, its def answering True -/
theorem walk_tab {l : PySem.W.OpenLaw} {q : Program} {loose : List Str} {XP : (Str → Option Value) → Heap → Prop} {d : DefRec} {T : Tab} {g n k p : Nat} {en : MDef} (hc : T.chk = true) (hm : l.most = some 63) (hdf : d.params.defaults = []) (hr : Room n callerA)
    (hd : T.prog.fn g = some en) (hp : en.pos = [p]) (hk : en.kwo = []) (hname : d.name = T.nm g) (hgl : T.isGl g = true)
    (law : ∀ l : List Int, l.length ≤ 63 → ∃ S', full T.prog n g [.ref 0] [.lk (.lst (l.map MV.int))] = .ok (.bl true) S') :
    PySem.W.WalkO q loose XP (hookF k T.ex T.fa T.fn).says l.row.toRowW d [] (fun f vs => PySem.call f vs) := by
  refine Att.attach_call hm hdf fun w s₀ h1 mg mb fa o pm cd doc a vs ns Gr Y ho hd' hcd hmg hobj hints hlen hgen => ?_
  obtain ⟨K, KX, c⟩ := Y
  have hn := (chk_parts hc).1
  have nl : noLists K = true := c.x.1
  have gl := tab_gl hn hc c KX Gr.T.g
  have efa : fa = (T.gi hn K).ad g := by
    have e1 := (gl.fn g hgl).1
    rw [hname] at hmg
    have e2 : mg (T.nm g) = some (.ref ((T.gi hn K).ad g)) := e1
    rw [hmg] at e2
    cases e2
    rfl
  subst efa
  refine law_goes (G := T.gi hn K) (Γ := T.prog) (x := T.nm p) KX nl Gr.T.g Gr.T.b Gr.T.builtins Gr.T.nolimit hgen hobj hints hlen hr (fun base hKb hmb => ?_) law
  obtain ⟨fd, dv, D, F⟩ := callsAt (P := l.prog) (w := w) (base := base) (tab_cls hn hc c) (tab_clss hn hc c) gl (tab_defs hn hc c) n n (Nat.le_refl _) g en hd
  have hpn : parNames (T.gi hn K) en = [T.nm p] := by
    unfold parNames
    rw [hp, hk]
    rfl
  refine ⟨fd, ?_, by rw [← hpn]; exact F⟩
  have := bind_to (ks := []) (us := [Value.ref a]) D.fd KX (full := [Value.ref a]) ?_
  · have hpn' : (en.pos ++ en.kwo.map (·.1)).map (T.gi hn K).nm = [T.nm p] := hpn
    rw [hpn'] at this
    exact this
  · rw [hp, hk]
    rfl
end FE
/-! FEu: the evaluator's rows for plain laws. -/
namespace FE
open PySem L2

section
variable {Γ : Prog} {C : Calls} {σ : Slots} {S : Store}
@[simp] theorem evE_slot (i : Nat) : evE Γ C (.slot i) σ S = match σ[i]? with
    | some (some v) => .ok v S
    | _ => .stuck := rfl
@[simp] theorem evE_glob (g : Nat) : evE Γ C (.glob g) σ S = oneO (Γ.con g) S := rfl
@[simp] theorem evE_cst (v : MV) : evE Γ C (.cst v) σ S = .ok v S := rfl
@[simp] theorem evE_bin (op : BOp) (a b : ME) : evE Γ C (.bin op a b) σ S = (evE Γ C a σ S).bind fun x S1 => (evE Γ C b σ S1).bind fun y S2 => binV op x y S2 := rfl
@[simp] theorem evE_neg (a : ME) : evE Γ C (.neg a) σ S = (evE Γ C a σ S).bind fun x S1 => match x with
    | .int i => .ok (.int (-i)) S1
    | _ => .stuck := rfl
@[simp] theorem evE_cmp (op : COp) (a b : ME) : evE Γ C (.cmp op a b) σ S = (evE Γ C a σ S).bind fun x S1 => (evE Γ C b σ S1).bind fun y S2 => blO (cmpV op x y S2) S2 := rfl
@[simp] theorem evE_chain (o1 o2 : COp) (a b c : ME) : evE Γ C (.chain o1 o2 a b c) σ S = (evE Γ C a σ S).bind fun x S1 => (evE Γ C b σ S1).bind fun y S2 => match cmpV o1 x y S2 with
    | some true => (evE Γ C c σ S2).bind fun z S3 => blO (cmpV o2 y z S3) S3
    | some false => .ok (.bl false) S2
    | none => .stuck := rfl
@[simp] theorem evE_and (a b : ME) : evE Γ C (.and a b) σ S = (evE Γ C a σ S).bind fun x S1 => match truth x S1 with
    | some true => evE Γ C b σ S1
    | some false => .ok x S1
    | none => .stuck := rfl
@[simp] theorem evE_or (a b : ME) : evE Γ C (.or a b) σ S = (evE Γ C a σ S).bind fun x S1 => match truth x S1 with
    | some true => .ok x S1
    | some false => evE Γ C b σ S1
    | none => .stuck := rfl
@[simp] theorem evE_not (a : ME) : evE Γ C (.not a) σ S = (evE Γ C a σ S).bind fun x S1 => blO ((truth x S1).map (!·)) S1 := rfl
@[simp] theorem evE_ife (c a b : ME) : evE Γ C (.ife c a b) σ S = (evE Γ C c σ S).bind fun x S1 => match truth x S1 with
    | some true => evE Γ C a σ S1
    | some false => evE Γ C b σ S1
    | none => .stuck := rfl
@[simp] theorem evE_tup (es : ME) : evE Γ C (.tup es) σ S = (evA Γ C es σ S).bind fun xs S1 => .ok (.tup xs) S1 := rfl
@[simp] theorem evE_lst (es : ME) : evE Γ C (.lst es) σ S = (evA Γ C es σ S).bind fun xs S1 => new S1 (.lst xs) := rfl
@[simp] theorem evE_dsp (es : ME) : evE Γ C (.dsp es) σ S = (evP Γ C es σ S).bind fun ps S1 => opt (mapO pairKey ps) fun kvs => new S1 (.dk (dputs [] kvs)) := rfl
@[simp] theorem evE_ix (a i : ME) : evE Γ C (.ix a i) σ S = (evE Γ C a σ S).bind fun x S1 => (evE Γ C i σ S1).bind fun y S2 => oneO (ixV x y S2) S2 := rfl
@[simp] theorem evE_blt (b : Blt) (as : ME) : evE Γ C (.blt b as .anil) σ S = (evA Γ C as σ S).bind fun xs S1 => bltV b xs S1 := rfl
@[simp] theorem evE_isi (e : ME) (c : Cl) : evE Γ C (.isi e c) σ S = (evE Γ C e σ S).bind fun x S1 => blO (isV Γ c x S1) S1 := rfl
@[simp] theorem evE_attr (o : ME) (f : Nat) : evE Γ C (.attr o f) σ S = (evE Γ C o σ S).bind fun x S1 => oneO (attrV Γ x f S1) S1 := rfl
@[simp] theorem evE_call (g : Nat) (as ks : ME) : evE Γ C (.call g as ks) σ S = (evA Γ C as σ S).bind fun xs S1 => (evK Γ C ks σ S1).bind fun ys S2 => C g xs ys S2 := rfl
@[simp] theorem evE_meth (m : Nat) (o as ks : ME) : evE Γ C (.meth m o as ks) σ S = (evE Γ C o σ S).bind fun x S1 => match ownOf Γ x m S1 with
    | some g => (evA Γ C as σ S1).bind fun xs S2 => (evK Γ C ks σ S2).bind fun ys S3 => C g (x :: xs) ys S3
    | none => match kdOf x S1 with
      | some kd => match bmOf kd m (argN as) with
        | some b => if isNilA ks then (evA Γ C as σ S1).bind fun xs S2 => bmV b x xs S2 else .stuck
        | none => .stuck
      | none => .stuck := rfl
@[simp] theorem evE_comp (own : List Nat) (t : NT) (it c e : ME) : evE Γ C (.comp own t it c e) σ S = (evI Γ C it σ S).bind fun I S1 => (compGo t (evE Γ C c) (evE Γ C e) I (wipeM σ own) I.count 0 [] S1).bind fun xs S2 => new S2 (.lst xs) := rfl
@[simp] theorem evA_nil : evA Γ C .anil σ S = .ok [] S := rfl
@[simp] theorem evA_cons (e es : ME) : evA Γ C (.acons e es) σ S = (evE Γ C e σ S).bind fun x S1 => (evA Γ C es σ S1).bind fun xs S2 => .ok (x :: xs) S2 := rfl
@[simp] theorem evK_nil : evK Γ C .anil σ S = .ok [] S := rfl
@[simp] theorem evK_cons (k : Nat) (e es : ME) : evK Γ C (.kcons k e es) σ S = (evE Γ C e σ S).bind fun x S1 => (evK Γ C es σ S1).bind fun xs S2 => .ok ((k, x) :: xs) S2 := rfl
@[simp] theorem evP_nil : evP Γ C .anil σ S = .ok [] S := rfl
@[simp] theorem evP_cons (k v r : ME) : evP Γ C (.pcons k v r) σ S = (evE Γ C k σ S).bind fun x S1 => (evE Γ C v σ S1).bind fun y S2 => (evP Γ C r σ S2).bind fun ps S3 => .ok ((x, y) :: ps) S3 := rfl
@[simp] theorem evI_seq (e : ME) : evI Γ C (.iseq e) σ S = (evE Γ C e σ S).bind fun v S1 => match itOf v S1 with
    | some I => .ok I S1
    | none => .stuck := rfl
@[simp] theorem evI_rng1 (a : ME) : evI Γ C (.irng1 a) σ S = (evE Γ C a σ S).bind fun v S1 => match v with
    | .int j => if -4611686018427387904 ≤ j ∧ j < 4611686018427387904 then .ok (.seq ((List.range j.toNat).map fun (k : Nat) => MV.int (k : Int))) S1 else .stuck
    | _ => .stuck := rfl
@[simp] theorem evS_skip : evS Γ C .skip σ S = .nx σ S := rfl
@[simp] theorem evS_seq (a b : MS) : evS Γ C (.seq a b) σ S = (evS Γ C a σ S).andThen fun σ1 S1 => evS Γ C b σ1 S1 := rfl
@[simp] theorem evS_expr (e : ME) : evS Γ C (.expr e) σ S = thenS (evE Γ C e σ S) σ fun _ S1 => .nx σ S1 := rfl
@[simp] theorem evS_asg (t : Tg) (e : ME) : evS Γ C (.asg t e) σ S = thenS (evE Γ C e σ S) σ fun v S1 => setT Γ C t v σ S1 := rfl
@[simp] theorem evS_ret (e : ME) : evS Γ C (.ret e) σ S = thenS (evE Γ C e σ S) σ fun v S1 => .rt v σ S1 := rfl
@[simp] theorem evS_retn : evS Γ C .retn σ S = .rt .non σ S := rfl
@[simp] theorem evS_ife (c : ME) (a b : MS) : evS Γ C (.ife c a b) σ S = thenS (evE Γ C c σ S) σ fun v S1 => match truth v S1 with
    | some true => evS Γ C a σ S1
    | some false => evS Γ C b σ S1
    | none => .stuck := rfl
@[simp] theorem evS_for (t : NT) (it : ME) (b : MS) : evS Γ C (.forr t it b) σ S = thenS (evI Γ C it σ S) σ fun I S1 => forGo t (fun σ1 S2 => evS Γ C b σ1 S2) I I.count 0 σ S1 := rfl
@[simp] theorem setT_nm (i : Nat) (v : MV) : setT Γ C (.nm i) v σ S = .nx (σ.set i (some v)) S := rfl
@[simp] theorem setT_sub (o i : ME) (v : MV) : setT Γ C (.sub o i) v σ S = thenS (evE Γ C o σ S) σ fun x S1 => thenS (evE Γ C i σ S1) σ fun y S2 => nxO σ (setItemV x y v S2) := rfl
@[simp] theorem setT_attr (o : ME) (f : Nat) (v : MV) : setT Γ C (.attr o f) v σ S = thenS (evE Γ C o σ S) σ fun x S1 => nxO σ (setAttrV Γ x f v S1) := rfl
@[simp] theorem opt_some {α : Type} (x : α) (f : α → Out MV) : opt (some x) f = f x := rfl
@[simp] theorem oneO_some (v : MV) : oneO (some v) S = .ok v S := rfl
@[simp] theorem blO_some (b : Bool) : blO (some b) S = .ok (.bl b) S := rfl
@[simp] theorem nxO_some (S1 : Store) : nxO σ (some S1) = .nx σ S1 := rfl
@[simp] theorem truth_bl (b : Bool) : truth (.bl b) S = some b := rfl
@[simp] theorem truth_int (i : Int) : truth (.int i) S = some (i != 0) := rfl
end
/-! ### calls -/
theorem calls_fn {Γ : Prog} {n g : Nat} {d : MDef} {as vs : List MV} {ks : List (Nat × MV)} {S : Store} (h : Γ.fn g = some d) (hb : bindM d as ks = some vs) : calls Γ (n + 1) g as ks S = runD Γ (calls Γ n) d vs S := by
  simp only [calls, h, hb]
theorem full_fn {Γ : Prog} {n g : Nat} {d : MDef} {vs : List MV} {S : Store} (h : Γ.fn g = some d) : full Γ (n + 1) g vs S = runD Γ (calls Γ n) d vs S := by
  simp only [full, h]
theorem runD_rt {Γ : Prog} {C : Calls} {d : MDef} {vs : List MV} {S S1 : Store} {v : MV} {m : Slots} (h : evS Γ C d.body (startM d.size vs) S = .rt v m S1) : runD Γ C d vs S = .ok v S1 := by
  unfold runD; rw [h]
theorem runD_nx {Γ : Prog} {C : Calls} {d : MDef} {vs : List MV} {S S1 : Store} {m : Slots} (h : evS Γ C d.body (startM d.size vs) S = .nx m S1) : runD Γ C d vs S = .ok .non S1 := by
  unfold runD; rw [h]
/-! ### loops -/
/-- a walk through values at hand, by an invariant of slots and store -/
theorem forGo_seq {t : NT} {b : Slots → Store → SR} {xs : List MV} {J : Slots → Store → Prop} (h : ∀ x ∈ xs, ∀ σ S, J σ S → ∃ σ1 σ2 S2, setN t x σ = some σ1 ∧ b σ1 S = .nx σ2 S2 ∧ J σ2 S2) :
    ∀ (r k : Nat) (σ : Slots) (S : Store), k + r = xs.length → J σ S → ∃ σ' S', forGo t b (.seq xs) r k σ S = .nx σ' S' ∧ J σ' S'
  | 0, k, σ, S, _, j => ⟨σ, S, by unfold forGo; rw [if_pos (show IT.okAt S (.seq xs) = true from rfl)], j⟩
  | r + 1, k, σ, S, e, j => by
    have hk : k < xs.length := by omega
    obtain ⟨σ1, σ2, S2, h1, h2, h3⟩ := h xs[k] (List.getElem_mem hk) σ S j
    obtain ⟨σ', S', h4, h5⟩ := forGo_seq h r (k + 1) σ2 S2 (by omega) h3
    refine ⟨σ', S', ?_, h5⟩
    have e1 : (IT.seq xs).item S k = some xs[k] := List.getElem?_eq_getElem hk
    unfold forGo
    rw [e1]
    simp only [h1, h2, SR.andThen_nx]
    exact h4
/-- a comprehension over values at hand, without a test -/
theorem compGo_seq {t : NT} {e : Slots → Store → Out MV} {c : Slots → Store → Out MV} {σ : Slots} {xs : List MV} {J : Store → Prop} {R : MV → MV → Prop} (hc : ∀ σ S, c σ S = .ok (.bl true) S) (hl : xs.length ≤ lim)
    (h : ∀ x ∈ xs, ∀ S, J S → ∃ σ1 y S2, setN t x σ = some σ1 ∧ e σ1 S = .ok y S2 ∧ R x y ∧ J S2) :
    ∀ (r k : Nat) (acc : List MV) (S : Store), k + r = xs.length → acc.length = k → J S → ∃ ys S', compGo t c e (.seq xs) σ r k acc S = .ok (acc ++ ys) S' ∧ Paired R (xs.drop k) ys ∧ J S'
  | 0, k, acc, S, e0, _, j => ⟨[], S, by unfold compGo; rw [if_pos (show IT.okAt S (.seq xs) = true from rfl), List.append_nil], by rw [List.drop_of_length_le (by omega)]; exact .nil, j⟩
  | r + 1, k, acc, S, e0, ha, j => by
    have hk : k < xs.length := by omega
    obtain ⟨σ1, y, S2, h1, h2, h3, h4⟩ := h xs[k] (List.getElem_mem hk) S j
    obtain ⟨ys, S', h5, h6, h7⟩ := compGo_seq hc hl h r (k + 1) (acc ++ [y]) S2 (by omega) (by simp [ha]) h4
    refine ⟨y :: ys, S', ?_, ?_, h7⟩
    · have e1 : (IT.seq xs).item S k = some xs[k] := List.getElem?_eq_getElem hk
      unfold compGo
      rw [e1]
      simp only [h1, hc, h2, truth_bl]
      rw [if_pos (by omega), h5, List.append_assoc]
      rfl
    · rw [List.drop_eq_getElem_cons hk]
      exact .cons h3 h6
/-- .. whose elements are computed without a change -/
theorem compGo_map {t : NT} {e : Slots → Store → Out MV} {c : Slots → Store → Out MV} {σ : Slots} {xs : List MV} {S : Store} {f : MV → MV} (hc : ∀ σ S, c σ S = .ok (.bl true) S) (hl : xs.length ≤ lim)
    (h : ∀ x ∈ xs, ∃ σ1, setN t x σ = some σ1 ∧ e σ1 S = .ok (f x) S) : compGo t c e (.seq xs) σ xs.length 0 [] S = .ok (xs.map f) S := by
  obtain ⟨ys, S', h1, h2, h3⟩ := compGo_seq (J := fun S1 => S1 = S) (R := fun x y => y = f x) hc hl (fun x hx S1 hS => by
    subst hS
    obtain ⟨σ1, e1, e2⟩ := h x hx
    exact ⟨σ1, f x, _, e1, e2, rfl, rfl⟩) xs.length 0 [] S (by omega) rfl rfl
  subst h3
  rw [h1, List.nil_append]
  congr 1
  rw [List.drop_zero] at h2
  clear h1 h hl
  induction h2 with
  | nil => rfl
  | cons h t ih => rw [List.map_cons, ih, h]
/-! ### values -/
section
variable {S : Store}
@[simp] theorem bin_add (i j : Int) : binV .add (.int i) (.int j) S = .ok (.int (i + j)) S := rfl
@[simp] theorem bin_sub (i j : Int) : binV .sub (.int i) (.int j) S = .ok (.int (i - j)) S := rfl
theorem bin_mulr (i : Int) {j : Int} (h1 : -18446744073709551616 < j) (h2 : j < 18446744073709551616) : binV .mul (.int i) (.int j) S = .ok (.int (i * j)) S := by
  show (if _ then _ else _) = _
  rw [if_pos (.inr ⟨h1, h2⟩)]
theorem bin_mull {i : Int} (j : Int) (h1 : -18446744073709551616 < i) (h2 : i < 18446744073709551616) : binV .mul (.int i) (.int j) S = .ok (.int (i * j)) S := by
  show (if _ then _ else _) = _
  rw [if_pos (.inl ⟨h1, h2⟩)]
@[simp] theorem bin_mod (i : Int) {j : Int} (h : 0 < j) : binV .mod (.int i) (.int j) S = .ok (.int (i % j)) S := by
  show (if _ then _ else _) = _
  rw [if_pos h]
@[simp] theorem bin_fdiv (i : Int) {j : Int} (h : 0 < j) (h2 : j < 1000000000000) : binV .fdiv (.int i) (.int j) S = .ok (.int (i / j)) S := by
  show (if _ then _ else _) = _
  rw [if_pos ⟨h, Int.lt_trans h2 (by decide)⟩]
@[simp] theorem cmp_lt (i j : Int) : cmpV .lt (.int i) (.int j) S = some (decide (i < j)) := rfl
@[simp] theorem cmp_le (i j : Int) : cmpV .le (.int i) (.int j) S = some (decide (i ≤ j)) := rfl
@[simp] theorem cmp_gt (i j : Int) : cmpV .gt (.int i) (.int j) S = some (decide (j < i)) := rfl
@[simp] theorem cmp_ge (i j : Int) : cmpV .ge (.int i) (.int j) S = some (decide (j ≤ i)) := rfl
theorem ix_ref {r : Nat} {k : Int} {xs : List MV} (h : rdL S r = some xs) : ixV (.ref r) (.int k) S = atI xs k := by
  show (match rdL S r with | some xs => atI xs k | none => none) = _
  rw [h]
theorem rdL_lst {r : Nat} {xs : List MV} (h : S[r]? = some (.lst xs)) : rdL S r = some xs := by unfold rdL; rw [h]
theorem rdL_lk {r : Nat} {xs : List MV} (h : S[r]? = some (.lk (.lst xs))) : rdL S r = some xs := by unfold rdL; rw [h]
theorem set_ref {r : Nat} {k : Int} {j : Nat} {v : MV} {xs : List MV} (h : S[r]? = some (.lst xs)) (hj : ixN xs.length k = some j) : setItemV (.ref r) (.int k) v S = some (S.set r (.lst (xs.set j v))) := by
  show (match S[r]? with | some (.lst xs) => (ixN xs.length k).map fun j => S.set r (.lst (xs.set j v)) | _ => none) = _
  rw [h]
  show (ixN xs.length k).map _ = _
  rw [hj]
  rfl
@[simp] theorem datE_int (i j : Int) : cmpV .eq (.int i) (.int j) S = some (decide (i = j)) := rfl
end
section
variable {S : Store}
theorem blt_len {v : MV} {n : Nat} (h : lenV v S = some n) : bltV .len [v] S = .ok (.int n) S := by
  show opt (lenV v S) _ = _
  rw [h]
  rfl
theorem len_str {x : Str} (h : x.length ≤ lim) : lenV (.str x) S = some x.length := if_pos h
theorem len_ref {r : Nat} {xs : List MV} (h : rdL S r = some xs) : lenV (.ref r) S = some xs.length := by
  show (match rdL S r with | some xs => some xs.length | none => none) = _
  rw [h]
@[simp] theorem blt_abs (i : Int) : bltV .abs [.int i] S = .ok (.int (if i < 0 then -i else i)) S := rfl
@[simp] theorem blt_max (i j : Int) : bltV .max [.int i, .int j] S = .ok (.int (if j > i then j else i)) S := rfl
@[simp] theorem blt_min (i j : Int) : bltV .min [.int i, .int j] S = .ok (.int (if j < i then j else i)) S := rfl
@[simp] theorem blt_intb (b : Bool) : bltV .int [.bl b] S = .ok (.int (if b then 1 else 0)) S := rfl
theorem blt_repr {v : MV} {d : PyData} (h : dat datF S v = some d) (h1 : d.showable = true) (h2 : d.shown.length ≤ lim) : bltV .repr [v] S = .ok (.str d.shown) S := by
  show opt (dat datF S v) _ = _
  rw [h]
  exact if_pos ⟨h1, h2⟩
@[simp] theorem repr_bl (b : Bool) : bltV .repr [.bl b] S = .ok (.str (PyData.shown (.bool b))) S := blt_repr (d := .bool b) rfl rfl (by cases b <;> decide)
theorem blsOf_map : ∀ bs : List Bool, blsOf (bs.map MV.bl) = some bs
  | [] => rfl
  | b :: bs => by
    have := blsOf_map bs
    unfold blsOf at this ⊢
    simp only [List.map_cons, mapO, this]
theorem strsOf_map : ∀ bs : List Str, strsOf (bs.map MV.str) = some bs
  | [] => rfl
  | b :: bs => by
    have := strsOf_map bs
    unfold strsOf at this ⊢
    simp only [List.map_cons, mapO, this]
theorem blt_all {r : Nat} {bs : List Bool} (h : rdL S r = some (bs.map MV.bl)) : bltV .all [.ref r] S = .ok (.bl (bs.all id)) S := by
  show opt (rdL S r) _ = _
  rw [h]
  show opt (blsOf (bs.map MV.bl)) _ = _
  rw [blsOf_map]
  rfl
theorem blt_any {r : Nat} {bs : List Bool} (h : rdL S r = some (bs.map MV.bl)) : bltV .any [.ref r] S = .ok (.bl (bs.any id)) S := by
  show opt (rdL S r) _ = _
  rw [h]
  show opt (blsOf (bs.map MV.bl)) _ = _
  rw [blsOf_map]
  rfl
theorem bm_join {r : Nat} {sep : Str} {ys : List Str} (h : rdL S r = some (ys.map MV.str)) (hl : (ys.map (·.length)).sum + ys.length * sep.length ≤ lim) : bmV .join (.str sep) [.ref r] S = .ok (.str (Txt.join sep ys)) S := by
  show opt (rdL S r) _ = _
  rw [h]
  show opt (strsOf (ys.map MV.str)) _ = _
  rw [strsOf_map]
  exact if_pos hl
theorem in_str {c : Nat} {x : Str} : cmpV .inn (.str ⟨#[c]⟩) (.str x) S = some (decide (c ∈ x.cps.toList)) := rfl
theorem nin_str {c : Nat} {x : Str} : cmpV .nin (.str ⟨#[c]⟩) (.str x) S = some (!decide (c ∈ x.cps.toList)) := rfl
theorem add_str {x y : Str} (h : x.length + y.length ≤ lim) : binV .add (.str x) (.str y) S = .ok (.str (x ++ y)) S := if_pos h
@[simp] theorem new_ok (o : MO) : new S o = .ok (.ref S.length) (S ++ [o]) := rfl
theorem get_new {o : MO} : (S ++ [o])[S.length]? = some o := by simp
theorem get_old {o : MO} {i : Nat} {x : MO} (h : S[i]? = some x) : (S ++ [o])[i]? = some x := by
  rw [List.getElem?_append_left (List.getElem?_eq_some_iff.mp h).1]; exact h
theorem itOf_str (x : Str) : itOf (.str x) S = some (.seq (x.cps.toList.map fun c => .str ⟨#[c]⟩)) := rfl
/-- [f(c) for c in text], no change -/
theorem comp_str {t : Nat} {e c : Slots → Store → Out MV} {σ : Slots} {x : Str} {g : Nat → MV} (hc : ∀ σ S, c σ S = .ok (.bl true) S) (hl : x.length ≤ lim) (h : ∀ k, e (σ.set t (some (.str ⟨#[k]⟩))) S = .ok (g k) S) :
    compGo (.nm t) c e (.seq (x.cps.toList.map fun c => .str ⟨#[c]⟩)) σ (IT.seq (x.cps.toList.map fun c => .str ⟨#[c]⟩)).count 0 [] S = .ok (x.cps.toList.map g) S := by
  let hd : MV → MV := fun v => match v with
    | .str y => match y.cps.toList with
      | k :: _ => g k
      | [] => .non
    | _ => .non
  have key := compGo_map (t := .nm t) (e := e) (c := c) (σ := σ) (xs := x.cps.toList.map fun c => .str ⟨#[c]⟩) (S := S) (f := hd) hc (by simpa [Str.length] using hl) fun v hv => by
    obtain ⟨k, _, rfl⟩ := List.mem_map.mp hv
    exact ⟨_, rfl, h k⟩
  rw [List.map_map] at key
  exact key
theorem shaped_str {x : Str} (h : PyData.strOk x = true) : SeqAt.shaped (.str x) = true := by
  unfold SeqAt.shaped
  simp [PyData.canLay0, PyData.depth, h]
theorem eq_str {x y : Str} (hx : PyData.strOk x = true) (hy : PyData.strOk y = true) : cmpV .eq (.str x) (.str y) S = some (x == y) := by
  show datE S (.str x) (.str y) = _
  have h1 : dat datF S (.str x) = some (.str x) := rfl
  have h2 : dat datF S (.str y) = some (.str y) := rfl
  unfold datE
  rw [h1, h2]
  simp only [shaped_str hx, shaped_str hy]
  rfl
@[simp] theorem eq_repr_bl (a b : Bool) : cmpV .eq (.str (PyData.shown (.bool a))) (.str (PyData.shown (.bool b))) S = some (a == b) := by
  rw [eq_str (by cases a <;> decide +kernel) (by cases b <;> decide +kernel)]
  cases a <;> cases b <;> decide +kernel
end
/-- a text made of such signs, so long at most -/
def made (x signs : Str) (most : Int) : Bool := decide (1 ≤ (x.length : Int)) && decide ((x.length : Int) ≤ most) && (x.cps.toList.map fun c => decide (c ∈ signs.cps.toList)).all id
theorem join_len (sep : Str) (ys : List Str) : (Txt.join sep ys).length ≤ (ys.map (·.length)).sum + ys.length * sep.length := by
  unfold Txt.join
  rw [StrLaws.glued_eq_join]
  exact StrLaws.join_length_le sep ys
theorem sum_ones : ∀ ys : List Str, (∀ y ∈ ys, y.length = 1) → (ys.map (·.length)).sum = ys.length
  | [], _ => rfl
  | y :: r, h => by
    rw [List.map_cons, List.sum_cons, sum_ones r fun u hu => h u (List.mem_cons_of_mem _ hu), h y List.mem_cons_self, List.length_cons]
    omega
end FE
set_option maxHeartbeats 0
namespace FE.Law
open PySem L2 FE
abbrev P : Program := PySem.Challenge.pw_walkbox_k11_names_and_words
def top (i : Nat) : Stmt := P.main.body.getD i (.Pass ⟨0, 0, 0, 0⟩)
def mth (i j : Nat) : Stmt := match top i with
  | .ClassDef _ _ _ b _ _ _ _ _ _ _ => b.getD j (.Pass ⟨0, 0, 0, 0⟩)
  | _ => .Pass ⟨0, 0, 0, 0⟩
def nms : List Str := [⟨#[]⟩,
  ⟨#[106, 111, 105, 110]⟩,
  ⟨#[97, 112, 112, 101, 110, 100]⟩,
  ⟨#[101, 120, 116, 101, 110, 100]⟩,
  ⟨#[112, 111, 112]⟩,
  ⟨#[99, 108, 101, 97, 114]⟩,
  ⟨#[116, 104, 105, 110, 103]⟩,
  ⟨#[115, 105, 103, 110, 115]⟩,
  ⟨#[109, 111, 115, 116]⟩,
  ⟨#[115, 105, 103, 110]⟩,
  ⟨#[105, 115, 95, 109, 97, 100, 101, 95, 111, 102]⟩,
  ⟨#[77, 79, 83, 84, 95, 76, 69, 84, 84, 69, 82, 83]⟩,
  ⟨#[76, 69, 84, 84, 69, 82, 83]⟩,
  ⟨#[105, 115, 95, 110, 97, 109, 101]⟩,
  ⟨#[77, 79, 83, 84, 95, 83, 73, 71, 78, 83]⟩,
  ⟨#[70, 73, 71, 85, 82, 69, 83]⟩,
  ⟨#[105, 115, 95, 119, 111, 114, 100]⟩,
  ⟨#[95, 108, 97, 119, 95, 115, 99, 114, 105, 112, 116]⟩,
  ⟨#[95, 108, 97, 119, 95, 107]⟩,
  ⟨#[95, 108, 97, 119, 95, 99, 101, 108, 108]⟩,
  ⟨#[95, 108, 97, 119, 95, 112, 111, 116]⟩,
  ⟨#[95, 108, 97, 119, 95, 112, 111, 116, 95, 104, 101, 114, 101]⟩,
  ⟨#[95, 108, 97, 119, 95, 109, 97, 110, 121]⟩,
  ⟨#[95, 108, 97, 119, 95, 100, 105, 103, 105, 116, 95, 104, 101, 114, 101]⟩,
  ⟨#[95, 108, 97, 119, 95, 100, 105, 103, 105, 116]⟩,
  ⟨#[95, 108, 97, 119, 95, 115, 111, 109, 101]⟩,
  ⟨#[95, 108, 97, 119, 95, 111, 100, 100]⟩,
  ⟨#[95, 108, 97, 119, 95, 119, 97, 121]⟩,
  ⟨#[95, 108, 97, 119, 95, 115, 105, 103, 110]⟩,
  ⟨#[95, 108, 97, 119, 95, 115, 105, 122, 101]⟩,
  ⟨#[95, 108, 97, 119, 95, 112, 108, 97, 105, 110]⟩,
  ⟨#[95, 108, 97, 119, 95, 116, 101, 120, 116]⟩,
  ⟨#[95, 108, 97, 119, 95, 116, 101, 120, 116, 95, 104, 101, 114, 101]⟩,
  ⟨#[95, 108, 97, 119, 95, 109, 111, 115, 116]⟩,
  ⟨#[95, 108, 97, 119, 95, 102, 105, 103, 117, 114, 101, 115]⟩,
  ⟨#[95, 108, 97, 119, 95, 115, 105, 103, 110, 115]⟩,
  ⟨#[95, 108, 97, 119, 95, 115, 105, 103, 110, 95, 104, 101, 114, 101]⟩,
  ⟨#[95, 108, 97, 119, 95, 105, 115]⟩,
  ⟨#[95, 108, 97, 119, 95, 116, 104, 105, 110, 103]⟩,
  ⟨#[95, 108, 97, 119, 95, 110, 97, 109, 101]⟩,
  ⟨#[95, 108, 97, 119, 95, 119, 111, 114, 100]⟩,
  ⟨#[95, 108, 97, 119, 95, 114, 105, 103, 104, 116]⟩,
  ⟨#[95, 108, 97, 119, 95, 116, 117, 114, 110]⟩,
  ⟨#[108, 97, 119]⟩]
def s0 : Str := ⟨#[48, 49, 50, 51, 52, 53, 54, 55, 56, 57]⟩
def s1 : Str := ⟨#[32, 33, 34, 35, 36, 38, 39, 40, 41, 42, 43, 44, 45, 46, 47, 58, 59, 60, 61, 62, 63, 64, 65, 66, 67, 68, 69, 70, 71, 72, 73, 74, 75, 76, 77, 78, 79, 80, 81, 82, 83, 84, 85, 86, 87, 88, 89, 90, 91, 92, 93, 94, 95, 96, 123, 124, 125, 126, 10]⟩
def s2 : Str := ⟨#[97, 98, 99, 100, 101, 102, 103, 104, 105, 106, 107, 108, 109, 110, 111, 112, 113, 114, 115, 116, 117, 118, 119, 120, 121, 122]⟩
def d_is_made_of : MDef := { pos := [6, 7, 8], kwo := [], size := 4, body :=
  (.seq (.ife (.or (.not (.isi (.slot 0) .str)) (.not (.chain .le .le (.cst (.int 1)) (.blt .len (.acons (.slot 0) .anil) .anil) (.slot 2))))
  (.seq (.ret (.cst (.bl false)))
  .skip)
  .skip)
  (.seq (.ret (.blt .all (.acons (.comp [3] (.nm 3) (.iseq (.slot 0)) (.cst (.bl true)) (.cmp .inn (.slot 3) (.slot 1))) .anil) .anil))
  .skip)) }
def e_is_made_of : Ent := { d := d_is_made_of, N := [6, 7, 8, 9].map (nmOf nms), D := ⟨("is_made_of", none), "is_made_of", "is_made_of", L2.defArgs (top 5), L2.defBody (top 5), L2.defScope (top 5), [], []⟩ }

def d_is_name : MDef := { pos := [6], kwo := [], size := 1, body :=
  (.seq (.ret (.call 10 (.acons (.slot 0) (.acons (.glob 12) (.acons (.glob 11) .anil))) .anil))
  .skip) }
def e_is_name : Ent := { d := d_is_name, N := [6].map (nmOf nms), D := ⟨("is_name", none), "is_name", "is_name", L2.defArgs (top 6), L2.defBody (top 6), L2.defScope (top 6), [], []⟩ }

def d_is_word : MDef := { pos := [6], kwo := [], size := 1, body :=
  (.seq (.ret (.call 10 (.acons (.slot 0) (.acons (.bin .add (.glob 12) (.glob 15)) (.acons (.glob 14) .anil))) .anil))
  .skip) }
def e_is_word : Ent := { d := d_is_word, N := [6].map (nmOf nms), D := ⟨("is_word", none), "is_word", "is_word", L2.defArgs (top 7), L2.defBody (top 7), L2.defScope (top 7), [], []⟩ }

def d__law_pot : MDef := { pos := [17, 18], kwo := [], size := 3, body :=
  (.seq (.asg (.nm 2) (.ife (.cmp .lt (.slot 1) (.blt .len (.acons (.slot 0) .anil) .anil)) (.ix (.slot 0) (.slot 1)) (.cst (.int 0))))
  (.seq (.ret (.lst (.acons (.blt .max (.acons (.cst (.int 0)) (.acons (.bin .sub (.blt .abs (.acons (.slot 2) .anil) .anil) (.bin .pow (.cst (.int 10)) (.cst (.int 18)))) .anil)) .anil) (.acons (.bin .add (.bin .add (.bin .mod (.blt .abs (.acons (.slot 2) .anil) .anil) (.cst (.int 2147483587))) (.bin .mul (.cst (.int 101)) (.slot 1))) (.cst (.int 3))) .anil))))
  .skip)) }
def e__law_pot : Ent := { d := d__law_pot, N := [17, 18, 19].map (nmOf nms), D := ⟨("_law_pot", none), "_law_pot", "_law_pot", L2.defArgs (top 9), L2.defBody (top 9), L2.defScope (top 9), [], []⟩ }

def d__law_digit : MDef := { pos := [21, 22], kwo := [], size := 3, body :=
  (.seq (.ife (.cmp .gt (.ix (.slot 0) (.cst (.int 0))) (.cst (.int 0)))
  (.seq (.asg (.nm 2) (.bin .mod (.ix (.slot 0) (.cst (.int 0))) (.slot 1)))
  (.seq (.asg (.sub (.slot 0) (.cst (.int 0))) (.bin .fdiv (.ix (.slot 0) (.cst (.int 0))) (.slot 1)))
  (.seq (.ret (.slot 2))
  .skip)))
  .skip)
  (.seq (.asg (.sub (.slot 0) (.cst (.int 1))) (.bin .mod (.bin .add (.bin .mul (.ix (.slot 0) (.cst (.int 1))) (.cst (.int 39373))) (.cst (.int 20011))) (.cst (.int 2147483647))))
  (.seq (.ret (.bin .mod (.bin .fdiv (.bin .mod (.bin .mul (.ix (.slot 0) (.cst (.int 1))) (.ix (.slot 0) (.cst (.int 1)))) (.cst (.int 2147483563))) (.cst (.int 11))) (.slot 1)))
  .skip))) }
def e__law_digit : Ent := { d := d__law_digit, N := [21, 22, 23].map (nmOf nms), D := ⟨("_law_digit", none), "_law_digit", "_law_digit", L2.defArgs (top 10), L2.defBody (top 10), L2.defScope (top 10), [], []⟩ }

def d__law_sign : MDef := { pos := [21], kwo := [], size := 4, body :=
  (.seq (.asg (.nm 1) (.cst (.str s2)))
  (.seq (.asg (.nm 2) (.cst (.str s1)))
  (.seq (.asg (.nm 3) (.call 24 (.acons (.slot 0) (.acons (.cst (.int 12)) .anil)) .anil))
  (.seq (.ife (.cmp .eq (.slot 3) (.cst (.int 0)))
  (.seq (.ret (.ix (.slot 2) (.call 24 (.acons (.slot 0) (.acons (.blt .len (.acons (.slot 2) .anil) .anil) .anil)) .anil)))
  .skip)
  .skip)
  (.seq (.ife (.cmp .lt (.slot 3) (.cst (.int 3)))
  (.seq (.ret (.ix (.cst (.str s0)) (.call 24 (.acons (.slot 0) (.acons (.cst (.int 10)) .anil)) .anil)))
  .skip)
  .skip)
  (.seq (.ret (.ix (.slot 1) (.call 24 (.acons (.slot 0) (.acons (.cst (.int 26)) .anil)) .anil)))
  .skip)))))) }
def e__law_sign : Ent := { d := d__law_sign, N := [21, 25, 26, 27].map (nmOf nms), D := ⟨("_law_sign", none), "_law_sign", "_law_sign", L2.defArgs (top 11), L2.defBody (top 11), L2.defScope (top 11), [], []⟩ }

def d__law_text : MDef := { pos := [21], kwo := [], size := 4, body :=
  (.seq (.asg (.nm 1) (.ix (.lst (.acons (.call 24 (.acons (.slot 0) (.acons (.cst (.int 16)) .anil)) .anil) (.acons (.cst (.int 8)) (.acons (.cst (.int 9)) (.acons (.cst (.int 12)) (.acons (.cst (.int 13)) .anil)))))) (.call 24 (.acons (.slot 0) (.acons (.cst (.int 5)) .anil)) .anil)))
  (.seq (.asg (.nm 2) (.cmp .eq (.call 24 (.acons (.slot 0) (.acons (.cst (.int 3)) .anil)) .anil) (.cst (.int 0))))
  (.seq (.ife (.slot 2)
  (.seq (.ret (.meth 1 (.cst (.str ⟨#[]⟩)) (.acons (.comp [3] (.nm 3) (.irng1 (.slot 1)) (.cst (.bl true)) (.ix (.cst (.str s2)) (.call 24 (.acons (.slot 0) (.acons (.cst (.int 26)) .anil)) .anil))) .anil) .anil))
  .skip)
  .skip)
  (.seq (.ret (.meth 1 (.cst (.str ⟨#[]⟩)) (.acons (.comp [3] (.nm 3) (.irng1 (.slot 1)) (.cst (.bl true)) (.call 28 (.acons (.slot 0) .anil) .anil)) .anil) .anil))
  .skip)))) }
def e__law_text : Ent := { d := d__law_text, N := [21, 29, 30, 18].map (nmOf nms), D := ⟨("_law_text", none), "_law_text", "_law_text", L2.defArgs (top 12), L2.defBody (top 12), L2.defScope (top 12), [], []⟩ }

def d__law_is : MDef := { pos := [32, 33, 34], kwo := [], size := 5, body :=
  (.seq (.asg (.nm 3) (.bin .add (.cst (.str s2)) (.bin .mul (.cst (.str s0)) (.blt .int (.acons (.slot 2) .anil) .anil))))
  (.seq (.ret (.and (.chain .le .le (.cst (.int 1)) (.blt .len (.acons (.slot 0) .anil) .anil) (.slot 1)) (.blt .all (.acons (.comp [4] (.nm 4) (.iseq (.slot 0)) (.cst (.bl true)) (.cmp .inn (.slot 4) (.slot 3))) .anil) .anil)))
  .skip)) }
def e__law_is : Ent := { d := d__law_is, N := [32, 33, 34, 35, 36].map (nmOf nms), D := ⟨("_law_is", none), "_law_is", "_law_is", L2.defArgs (top 13), L2.defBody (top 13), L2.defScope (top 13), [], []⟩ }

def d__law_right : MDef := { pos := [38, 39, 40], kwo := [], size := 3, body :=
  (.seq (.ret (.and (.cmp .eq (.blt .repr (.acons (.call 13 (.acons (.slot 0) .anil) .anil) .anil) .anil) (.blt .repr (.acons (.slot 1) .anil) .anil)) (.cmp .eq (.blt .repr (.acons (.call 16 (.acons (.slot 0) .anil) .anil) .anil) .anil) (.blt .repr (.acons (.slot 2) .anil) .anil))))
  .skip) }
def e__law_right : Ent := { d := d__law_right, N := [38, 39, 40].map (nmOf nms), D := ⟨("_law_right", none), "_law_right", "_law_right", L2.defArgs (top 14), L2.defBody (top 14), L2.defScope (top 14), [], []⟩ }

def d_law : MDef := { pos := [17], kwo := [], size := 6, body :=
  (.seq (.forr (.nm 1) (.irng1 (.blt .max (.acons (.cst (.int 1)) (.acons (.blt .min (.acons (.cst (.int 4)) (.acons (.blt .len (.acons (.slot 0) .anil) .anil) .anil)) .anil) .anil)) .anil))
  (.seq (.asg (.nm 2) (.call 20 (.acons (.slot 0) (.acons (.slot 1) .anil)) .anil))
  (.seq (.forr (.nm 3) (.irng1 (.cst (.int 3)))
  (.seq (.asg (.nm 4) (.call 31 (.acons (.slot 2) .anil) .anil))
  (.seq (.ife (.not (.call 41 (.acons (.slot 4) (.acons (.call 37 (.acons (.slot 4) (.acons (.cst (.int 8)) (.acons (.cst (.bl false)) .anil))) .anil) (.acons (.call 37 (.acons (.slot 4) (.acons (.cst (.int 12)) (.acons (.cst (.bl true)) .anil))) .anil) .anil))) .anil))
  (.seq (.ret (.cst (.bl false)))
  .skip)
  .skip)
  .skip)))
  (.seq (.asg (.nm 5) (.ix (.lst (.acons (.cst .non) (.acons (.cst (.int 7)) (.acons (.cst (.bl true)) (.acons (.lst (.acons (.cst (.str ⟨#[97]⟩)) .anil)) (.acons (.tup (.acons (.cst (.str ⟨#[97]⟩)) .anil)) (.acons (.dsp (.pcons (.cst (.str ⟨#[97]⟩)) (.cst (.int 1)) .anil)) (.acons (.lst .anil) (.acons (.tup .anil) (.acons (.dsp .anil) .anil)))))))))) (.call 24 (.acons (.slot 2) (.acons (.cst (.int 9)) .anil)) .anil)))
  (.seq (.ife (.not (.call 41 (.acons (.slot 5) (.acons (.cst (.bl false)) (.acons (.cst (.bl false)) .anil))) .anil))
  (.seq (.ret (.cst (.bl false)))
  .skip)
  .skip)
  .skip)))))
  (.seq (.ret (.cst (.bl true)))
  .skip)) }
def e_law : Ent := { d := d_law, N := [17, 18, 21, 42, 32, 26].map (nmOf nms), D := ⟨("law", none), "law", "law", L2.defArgs (top 15), L2.defBody (top 15), L2.defScope (top 15), [], []⟩ }

def tab : Tab := ⟨nms,
  [(10, e_is_made_of),
    (13, e_is_name),
    (16, e_is_word),
    (20, e__law_pot),
    (24, e__law_digit),
    (28, e__law_sign),
    (31, e__law_text),
    (37, e__law_is),
    (41, e__law_right),
    (43, e_law)],
  [],
  [(12, .str s2), (15, .str s0), (11, .int 8), (14, .int 12)]⟩
def loose : List Str := (["LETTERS", "FIGURES", "MOST_LETTERS", "MOST_SIGNS", "is_made_of", "is_name", "is_word", "_law_pot", "_law_digit", "_law_sign", "_law_text", "_law_is", "_law_right"] : List Str)
abbrev Γ : Prog := tab.prog
/-- the pot at p -/
def Pot (S : Store) (p : Nat) : Prop := ∃ a b : Int, S[p]? = some (.lst [.int a, .int b])
/-- what is not the pot stays, the store grows -/
structure Kp (p : Nat) (S S' : Store) : Prop where
  pot : Pot S' p
  old : ∀ i o, S[i]? = some o → i ≠ p → S'[i]? = some o
theorem Kp.trans {p : Nat} {S S1 S2 : Store} (a : Kp p S S1) (b : Kp p S1 S2) : Kp p S S2 := ⟨b.pot, fun i o h n => b.old i o (a.old i o h n) n⟩
theorem Kp.refl {p : Nat} {S : Store} (h : Pot S p) : Kp p S S := ⟨h, fun _ _ h _ => h⟩
theorem digit {n p : Nat} {m : Int} {S : Store} (hp : Pot S p) (h0 : 0 < m) (h1 : m < 1000) : ∃ r S', calls Γ (n + 1) 24 [.ref p, .int m] [] S = .ok (.int r) S' ∧ 0 ≤ r ∧ r < m ∧ Kp p S S' := by
  obtain ⟨a, b, hp⟩ := hp
  have hl : p < S.length := (List.getElem?_eq_some_iff.mp hp).1
  have h2 : m < 1000000000000 := by omega
  have i0 : ∀ x y : MV, atI [x, y] 0 = some x := fun _ _ => rfl
  have i1 : ∀ x y : MV, atI [x, y] 1 = some y := fun _ _ => rfl
  have n0 : ixN (List.length [MV.int a, MV.int b]) 0 = some 0 := rfl
  have n1 : ixN (List.length [MV.int a, MV.int b]) 1 = some 1 := rfl
  have hr := rdL_lst hp
  rw [calls_fn (d := d__law_digit) rfl rfl]
  by_cases ha : 0 < a
  · refine ⟨a % m, S.set p (.lst [.int (a / m), .int b]), runD_rt (m := [some (.ref p), some (.int m), some (.int (a % m))]) ?_, Int.emod_nonneg _ (by omega), Int.emod_lt_of_pos _ h0, ⟨a / m, b, by rw [List.getElem?_set_self hl]⟩, fun i o h n => by rw [List.getElem?_set_ne (Ne.symm n)]; exact h⟩
    simp [d__law_digit, startM, ix_ref hr, i0, ha, h0, h2, set_ref hp n0]
  · obtain ⟨b2, hb⟩ : ∃ b2 : Int, (b * 39373 + 20011) % 2147483647 = b2 := ⟨_, rfl⟩
    have hb0 : 0 ≤ b2 := by rw [← hb]; exact Int.emod_nonneg _ (by omega)
    have hb1 : b2 < 2147483647 := by rw [← hb]; exact Int.emod_lt_of_pos _ (by omega)
    have hp2 : (S.set p (.lst [.int a, .int b2]))[p]? = some (.lst [.int a, .int b2]) := List.getElem?_set_self hl
    have hr2 := rdL_lst hp2
    refine ⟨b2 * b2 % 2147483563 / 11 % m, S.set p (.lst [.int a, .int b2]), runD_rt (m := [some (.ref p), some (.int m), none]) ?_, Int.emod_nonneg _ (by omega), Int.emod_lt_of_pos _ h0, ⟨a, b2, hp2⟩, fun i o h n => by rw [List.getElem?_set_ne (Ne.symm n)]; exact h⟩
    have hm := bin_mull (S := S.set p (.lst [.int a, .int b2])) (i := b2) b2 (by omega) (by omega)
    simp [d__law_digit, startM, ix_ref hr, i0, i1, ha, h0, h2, set_ref hp n1, bin_mulr, hb, ix_ref hr2, hm]

/-- a text of the signs: any sign of a fixed text -/
theorem at_str {x : Str} {r : Int} (h0 : 0 ≤ r) (h1 : r < x.length) (hl : x.length ≤ lim) {S : Store} : ∃ c, ixV (.str x) (.int r) S = some (.str ⟨#[c]⟩) := by
  have e : x.length = x.cps.toList.length := by simp [Str.length]
  have hk : r.toNat < x.cps.toList.length := by omega
  refine ⟨x.cps.toList[r.toNat], ?_⟩
  show (if x.length ≤ lim then (atI x.cps.toList r).map _ else none) = _
  rw [if_pos hl]
  unfold atI ixN
  rw [if_pos h0, if_pos (by omega)]
  show (x.cps.toList[r.toNat]?).map _ = _
  rw [List.getElem?_eq_getElem hk]
  rfl
theorem sign_ok {n p : Nat} {S : Store} (hp : Pot S p) : ∃ c S', calls Γ (n + 2) 28 [.ref p] [] S = .ok (.str ⟨#[c]⟩) S' ∧ Kp p S S' := by
  rw [calls_fn (d := d__law_sign) rfl rfl]
  obtain ⟨r, S1, e1, a0, a1, k1⟩ := digit (n := n) (m := 12) hp (by omega) (by omega)
  by_cases h0 : r = 0
  · obtain ⟨q, S2, e2, b0, b1, k2⟩ := digit (n := n) (m := 59) k1.pot (by omega) (by omega)
    obtain ⟨c, ec⟩ := at_str (x := s1) (r := q) b0 b1 (by decide) (S := S2)
    refine ⟨c, S2, ?_, k1.trans k2⟩
    unfold runD
    have hln : bltV .len [.str s1] S1 = .ok (.int 59) S1 := blt_len (len_str (by decide))
    simp [d__law_sign, startM, e1, h0, hln, e2, ec]
  · by_cases h3 : r < 3
    · obtain ⟨q, S2, e2, b0, b1, k2⟩ := digit (n := n) (m := 10) k1.pot (by omega) (by omega)
      obtain ⟨c, ec⟩ := at_str (x := s0) (r := q) b0 b1 (by decide) (S := S2)
      refine ⟨c, S2, ?_, k1.trans k2⟩
      unfold runD
      simp [d__law_sign, startM, e1, h0, h3, e2, ec]
    · obtain ⟨q, S2, e2, b0, b1, k2⟩ := digit (n := n) (m := 26) k1.pot (by omega) (by omega)
      obtain ⟨c, ec⟩ := at_str (x := s2) (r := q) b0 b1 (by decide) (S := S2)
      refine ⟨c, S2, ?_, k1.trans k2⟩
      unfold runD
      simp [d__law_sign, startM, e1, h0, h3, e2, ec]

theorem ofr {p : Nat} {S : Store} {i : Nat} {o x : MO} (k : Kp p S S) (h : S[i]? = some x) : (S ++ [o])[i]? = some x := get_old h
theorem Kp.new {p : Nat} {S : Store} (hp : Pot S p) (o : MO) : Kp p S (S ++ [o]) := by
  obtain ⟨a, b, hp⟩ := hp
  exact ⟨⟨a, b, get_old hp⟩, fun i x h _ => get_old h⟩
theorem pot_lt {p : Nat} {S : Store} (hp : Pot S p) : p < S.length := by
  obtain ⟨a, b, hp⟩ := hp
  exact (List.getElem?_eq_some_iff.mp hp).1
/-- a comprehension of one-sign texts -/
theorem signs_ok {p : Nat} {C : Calls} {e : ME} {k : Int} {σ : Slots} {S : Store} (hp : Pot S p) (h0 : 0 ≤ k) (h1 : k ≤ 16)
    (he : ∀ (x : MV) (S : Store), Pot S p → ∃ c S', evE Γ C e ((wipeM σ [3]).set 3 (some x)) S = .ok (.str ⟨#[c]⟩) S' ∧ Kp p S S') :
    ∃ (ys : List Str) (S' : Store), (compGo (.nm 3) (evE Γ C (.cst (.bl true))) (evE Γ C e) (.seq ((List.range k.toNat).map fun (j : Nat) => MV.int (j : Int))) (wipeM σ [3]) (IT.seq ((List.range k.toNat).map fun (j : Nat) => MV.int (j : Int))).count 0 [] S) = .ok (ys.map MV.str) S' ∧ (∀ y ∈ ys, y.length = 1) ∧ ys.length ≤ 16 ∧ Kp p S S' := by
  obtain ⟨vs, S', e1, e2, k2⟩ := compGo_seq (t := .nm 3) (c := evE Γ C (.cst (.bl true))) (e := evE Γ C e) (σ := wipeM σ [3]) (xs := (List.range k.toNat).map fun (j : Nat) => MV.int (j : Int)) (J := fun S1 => Kp p S S1) (R := fun _ y => ∃ c, y = .str ⟨#[c]⟩) (fun _ _ => rfl) (by simp [lim]; omega)
    (fun x _ S1 kk => by
      obtain ⟨c, S2, e3, k3⟩ := he x S1 kk.pot
      exact ⟨_, _, S2, rfl, e3, ⟨c, rfl⟩, kk.trans k3⟩) _ 0 [] S (by rw [Nat.zero_add]) rfl (Kp.refl hp)
  have gen : ∀ (xs vs : List MV), Paired (fun _ y => ∃ c, y = MV.str ⟨#[c]⟩) xs vs → ∃ ys : List Str, vs = ys.map MV.str ∧ (∀ y ∈ ys, y.length = 1) ∧ ys.length = xs.length := by
    intro xs vs h
    induction h with
    | nil => exact ⟨[], rfl, by simp, rfl⟩
    | cons h t ih =>
      obtain ⟨c, rfl⟩ := h
      obtain ⟨ys, rfl, h2, h3⟩ := ih
      exact ⟨⟨#[c]⟩ :: ys, rfl, fun y hy => by
        rcases List.mem_cons.mp hy with rfl | q
        · rfl
        · exact h2 y q, by simp [h3]⟩
  obtain ⟨ys, rfl, h2, h3⟩ := gen _ _ e2
  refine ⟨ys, S', e1, h2, by rw [h3]; simp; omega, k2⟩
theorem text_ok {n p : Nat} {S : Store} (hp : Pot S p) : ∃ x S', calls Γ (n + 3) 31 [.ref p] [] S = .ok (.str x) S' ∧ x.length ≤ 16 ∧ Kp p S S' := by
  rw [calls_fn (d := d__law_text) rfl rfl]
  obtain ⟨r1, S1, e1, a0, a1, k1⟩ := digit (n := n + 1) (m := 16) hp (by omega) (by omega)
  have k1' := Kp.new k1.pot (.lst [.int r1, .int 8, .int 9, .int 12, .int 13])
  obtain ⟨r2, S2, e2, b0, b1, k2⟩ := digit (n := n + 1) (m := 5) k1'.pot (by omega) (by omega)
  have hL : S2[S1.length]? = some (.lst [.int r1, .int 8, .int 9, .int 12, .int 13]) := k2.old _ _ get_new (by have := pot_lt k1.pot; omega)
  obtain ⟨k, hk, g0, g1⟩ : ∃ k : Int, atI [MV.int r1, .int 8, .int 9, .int 12, .int 13] r2 = some (.int k) ∧ 0 ≤ k ∧ k ≤ 16 := by
    have : r2 = 0 ∨ r2 = 1 ∨ r2 = 2 ∨ r2 = 3 ∨ r2 = 4 := by omega
    rcases this with rfl | rfl | rfl | rfl | rfl
    · exact ⟨r1, rfl, a0, by omega⟩
    · exact ⟨8, rfl, by omega, by omega⟩
    · exact ⟨9, rfl, by omega, by omega⟩
    · exact ⟨12, rfl, by omega, by omega⟩
    · exact ⟨13, rfl, by omega, by omega⟩
  have hix : ixV (.ref S1.length) (.int r2) S2 = some (.int k) := by rw [ix_ref (rdL_lst hL), hk]
  obtain ⟨r3, S3, e3, c0, c1, k3⟩ := digit (n := n + 1) (m := 3) k2.pot (by omega) (by omega)
  have K3 : Kp p S S3 := ((k1.trans k1').trans k2).trans k3
  have hr : (-4611686018427387904 ≤ k ∧ k < 4611686018427387904) := by omega
  have fin : ∀ (ys : List Str) (S4 : Store), (∀ y ∈ ys, y.length = 1) → ys.length ≤ 16 → Kp p S3 S4 → bmV .join (.str ⟨#[]⟩) [.ref S4.length] (S4 ++ [.lst (ys.map MV.str)]) = .ok (.str (Txt.join ⟨#[]⟩ ys)) (S4 ++ [.lst (ys.map MV.str)]) ∧ (Txt.join ⟨#[]⟩ ys).length ≤ 16 ∧ Kp p S (S4 ++ [.lst (ys.map MV.str)]) := by
    intro ys S4 h1 h2 k4
    have hs := sum_ones ys h1
    have z : (⟨#[]⟩ : Str).length = 0 := rfl
    refine ⟨bm_join (rdL_lst get_new) (by rw [hs, z]; unfold lim; omega), ?_, (K3.trans k4).trans (Kp.new k4.pot _)⟩
    have := join_len ⟨#[]⟩ ys
    rw [hs, z] at this
    omega
  by_cases h3 : r3 = 0
  · obtain ⟨ys, S4, q1, q2, q3, k4⟩ := signs_ok (C := calls Γ (n + 2)) (e := .ix (.cst (.str s2)) (.call 24 (.acons (.slot 0) (.acons (.cst (.int 26)) .anil)) .anil)) (σ := [some (.ref p), some (.int k), some (.bl true), none]) k3.pot g0 g1 fun x S hp => by
      obtain ⟨q, S5, e5, d0, d1, k5⟩ := digit (n := n + 1) (m := 26) hp (by omega) (by omega)
      obtain ⟨c, ec⟩ := at_str (x := s2) (r := q) d0 d1 (by decide) (S := S5)
      exact ⟨c, S5, by simp [wipeM, e5, ec], k5⟩
    obtain ⟨f1, f2, f3⟩ := fin ys S4 q2 q3 k4
    refine ⟨_, _, ?_, f2, f3⟩
    unfold runD
    simp [d__law_text, startM, e1, e2, e3, hix, h3, hr, ownOf, kdOf, bmOf, argN, isNilA, q1, f1]
  · obtain ⟨ys, S4, q1, q2, q3, k4⟩ := signs_ok (C := calls Γ (n + 2)) (e := .call 28 (.acons (.slot 0) .anil) .anil) (σ := [some (.ref p), some (.int k), some (.bl false), none]) k3.pot g0 g1 fun x S hp => by
      obtain ⟨c, S5, e5, k5⟩ := sign_ok (n := n) hp
      exact ⟨c, S5, by simp [wipeM, e5], k5⟩
    obtain ⟨f1, f2, f3⟩ := fin ys S4 q2 q3 k4
    refine ⟨_, _, ?_, f2, f3⟩
    unfold runD
    simp [d__law_text, startM, e1, e2, e3, hix, h3, hr, ownOf, kdOf, bmOf, argN, isNilA, q1, f1]
/-- all([sign in signs for sign in thing]) -/
theorem all_in {C : Calls} {e : ME} {t : Nat} {σ : Slots} {S : Store} {x y : Str} (hl : x.length ≤ lim) (he : ∀ c, evE Γ C e (σ.set t (some (.str ⟨#[c]⟩))) S = .ok (.bl (decide (c ∈ y.cps.toList))) S) :
    compGo (.nm t) (evE Γ C (.cst (.bl true))) (evE Γ C e) (.seq (x.cps.toList.map fun c => .str ⟨#[c]⟩)) σ (IT.seq (x.cps.toList.map fun c => .str ⟨#[c]⟩)).count 0 [] S = .ok ((x.cps.toList.map fun c => decide (c ∈ y.cps.toList)).map MV.bl) S := by
  have := comp_str (t := t) (e := evE Γ C e) (c := evE Γ C (.cst (.bl true))) (σ := σ) (g := fun c => .bl (decide (c ∈ y.cps.toList))) (fun _ _ => rfl) hl he
  rw [List.map_map]
  exact this
theorem made_str {n : Nat} {S : Store} {x y : Str} {m : Int} (hl : x.length ≤ lim) : ∃ o, calls Γ (n + 1) 10 [.str x, .str y, .int m] [] S = .ok (.bl (made x y m)) (S ++ o) := by
  rw [calls_fn (d := d_is_made_of) rfl rfl]
  have hln : bltV .len [.str x] S = .ok (.int x.length) S := blt_len (len_str hl)
  have hty : isV Γ .str (.str x) S = some true := rfl
  have key := all_in (C := calls Γ n) (e := .cmp .inn (.slot 3) (.slot 1)) (t := 3) (σ := [some (.str x), some (.str y), some (.int m), none]) (S := S) (x := x) (y := y) hl fun c => by simp [in_str]
  unfold runD made
  generalize hbs : (x.cps.toList.map fun c => decide (c ∈ y.cps.toList)) = bs at *
  by_cases h1 : (1 : Int) ≤ x.length
  · by_cases h2 : (x.length : Int) ≤ m
    · refine ⟨[.lst (bs.map MV.bl)], ?_⟩
      have ha := blt_all (S := S ++ [.lst (bs.map MV.bl)]) (r := S.length) (bs := bs) (rdL_lst get_new)
      simp [startM, d_is_made_of, hty, hln, h1, h2, itOf_str, wipeM, key, ha]
    · exact ⟨[], by simp [startM, d_is_made_of, hty, hln, h1, h2]⟩
  · exact ⟨[], by simp [startM, d_is_made_of, hty, hln, h1]⟩
/-- a thing that is no text -/
theorem made_odd {n : Nat} {S : Store} {v w m : MV} (h : isV Γ .str v S = some false) : calls Γ (n + 1) 10 [v, w, m] [] S = .ok (.bl false) S := by
  rw [calls_fn (d := d_is_made_of) rfl rfl]
  unfold runD
  simp [startM, d_is_made_of, h]
theorem con_l : Γ.con 12 = some (.str s2) := rfl
theorem name_str {n : Nat} {S : Store} {x : Str} (hl : x.length ≤ lim) : ∃ o, calls Γ (n + 2) 13 [.str x] [] S = .ok (.bl (made x s2 8)) (S ++ o) := by
  obtain ⟨o, e⟩ := made_str (n := n) (S := S) (x := x) (y := s2) (m := 8) hl
  refine ⟨o, ?_⟩
  rw [calls_fn (d := d_is_name) rfl rfl]
  unfold runD
  have c1 : Γ.con 12 = some (.str s2) := rfl
  have c2 : Γ.con 11 = some (.int 8) := rfl
  simp [startM, d_is_name, c1, c2, e]
theorem word_str {n : Nat} {S : Store} {x : Str} (hl : x.length ≤ lim) : ∃ o, calls Γ (n + 2) 16 [.str x] [] S = .ok (.bl (made x (s2 ++ s0) 12)) (S ++ o) := by
  obtain ⟨o, e⟩ := made_str (n := n) (S := S) (x := x) (y := s2 ++ s0) (m := 12) hl
  refine ⟨o, ?_⟩
  rw [calls_fn (d := d_is_word) rfl rfl]
  unfold runD
  have c1 : Γ.con 12 = some (.str s2) := rfl
  have c2 : Γ.con 14 = some (.int 12) := rfl
  have c3 : Γ.con 15 = some (.str s0) := rfl
  have ad : binV .add (.str s2) (.str s0) S = .ok (.str (s2 ++ s0)) S := add_str (by decide)
  simp [startM, d_is_word, c1, c2, c3, ad, e]
theorem name_odd {n : Nat} {S : Store} {v : MV} (h : isV Γ .str v S = some false) : calls Γ (n + 2) 13 [v] [] S = .ok (.bl false) S := by
  rw [calls_fn (d := d_is_name) rfl rfl]
  unfold runD
  have c1 : Γ.con 12 = some (.str s2) := rfl
  have c2 : Γ.con 11 = some (.int 8) := rfl
  simp [startM, d_is_name, c1, c2, made_odd h]
theorem word_odd {n : Nat} {S : Store} {v : MV} (h : isV Γ .str v S = some false) : calls Γ (n + 2) 16 [v] [] S = .ok (.bl false) S := by
  rw [calls_fn (d := d_is_word) rfl rfl]
  unfold runD
  have c1 : Γ.con 12 = some (.str s2) := rfl
  have c2 : Γ.con 14 = some (.int 12) := rfl
  have c3 : Γ.con 15 = some (.str s0) := rfl
  have ad : binV .add (.str s2) (.str s0) S = .ok (.str (s2 ++ s0)) S := add_str (by decide)
  simp [startM, d_is_word, c1, c2, c3, ad, made_odd h]
theorem is_ok {n : Nat} {S : Store} {x : Str} {m : Int} {b : Bool} (hl : x.length ≤ lim) : ∃ o, calls Γ (n + 1) 37 [.str x, .int m, .bl b] [] S = .ok (.bl (made x (if b then s2 ++ s0 else s2) m)) (S ++ o) := by
  rw [calls_fn (d := d__law_is) rfl rfl]
  have hln : bltV .len [.str x] S = .ok (.int x.length) S := blt_len (len_str hl)
  have hmul : binV .mul (.str s0) (.int (if b then 1 else 0)) S = .ok (.str (if b then s0 else ⟨#[]⟩)) S := by cases b <;> rfl
  have had : binV .add (.str s2) (.str (if b then s0 else ⟨#[]⟩)) S = .ok (.str (if b then s2 ++ s0 else s2)) S := by
    cases b
    · rw [add_str (by decide)]; rfl
    · exact add_str (by decide)
  generalize (if b then s2 ++ s0 else s2) = y at *
  have key := all_in (C := calls Γ n) (e := .cmp .inn (.slot 4) (.slot 3)) (t := 4) (σ := [some (.str x), some (.int m), some (.bl b), some (.str y), none]) (S := S) (x := x) (y := y) hl fun c => by simp [in_str]
  unfold runD made
  generalize hbs : (x.cps.toList.map fun c => decide (c ∈ y.cps.toList)) = bs at *
  by_cases h1 : (1 : Int) ≤ x.length
  · by_cases h2 : (x.length : Int) ≤ m
    · refine ⟨[.lst (bs.map MV.bl)], ?_⟩
      have ha := blt_all (S := S ++ [.lst (bs.map MV.bl)]) (r := S.length) (bs := bs) (rdL_lst get_new)
      simp [startM, d__law_is, hln, h1, h2, itOf_str, wipeM, key, ha, hmul, had]
    · exact ⟨[], by simp [startM, d__law_is, hln, h1, h2, hmul, had]⟩
  · exact ⟨[], by simp [startM, d__law_is, hln, h1, hmul, had]⟩
theorem right_ok {n : Nat} {S S1 S2 : Store} {v : MV} {a b : Bool} (h1 : calls Γ (n + 2) 13 [v] [] S = .ok (.bl a) S1) (h2 : calls Γ (n + 2) 16 [v] [] S1 = .ok (.bl b) S2) : calls Γ (n + 3) 41 [v, .bl a, .bl b] [] S = .ok (.bl true) S2 := by
  rw [calls_fn (d := d__law_right) rfl rfl]
  unfold runD
  simp [startM, d__law_right, h1, h2]
theorem Kp.app {p : Nat} {S : Store} (hp : Pot S p) (o : List MO) : Kp p S (S ++ o) := by
  obtain ⟨a, b, hp⟩ := hp
  have g : ∀ {i : Nat} {x : MO}, S[i]? = some x → (S ++ o)[i]? = some x := fun {i x} h => by rw [List.getElem?_append_left (List.getElem?_eq_some_iff.mp h).1]; exact h
  exact ⟨⟨a, b, g hp⟩, fun i x h _ => g h⟩
theorem pot_ok {n k : Nat} {S : Store} {ns : List Int} (h : S[0]? = some (.lk (.lst (ns.map MV.int)))) : ∃ a b : Int, calls Γ (n + 1) 20 [.ref 0, .int k] [] S = .ok (.ref S.length) (S ++ [.lst [.int a, .int b]]) := by
  rw [calls_fn (d := d__law_pot) rfl rfl]
  have hr := rdL_lk h
  have hln : bltV .len [.ref 0] S = .ok (.int ns.length) S := by rw [blt_len (len_ref hr)]; simp
  have hpow : binV .pow (.int 10) (.int 18) S = .ok (.int (10 ^ 18)) S := rfl
  have hmul : ∀ S, binV .mul (.int 101) (.int k) S = .ok (.int (101 * k)) S := fun S => bin_mull _ (by omega) (by omega)
  unfold runD
  by_cases hk : k < ns.length
  · have hix : ixV (.ref 0) (.int k) S = some (.int ns[k]) := by
      rw [ix_ref hr]
      unfold atI ixN
      rw [if_pos (by omega), if_pos (by simp; omega)]
      show (ns.map MV.int)[((k : Int)).toNat]? = _
      simp [hk]
    simp [startM, d__law_pot, hln, hk, hix, hpow, hmul]
  · simp [startM, d__law_pot, hln, hk, hpow, hmul]
/-- one turn with a text -/
theorem turn_ok {n p : Nat} {S : Store} (hp : Pot S p) : ∃ x S1 S2 S3 S4, calls Γ (n + 4) 31 [.ref p] [] S = .ok (.str x) S1 ∧ calls Γ (n + 4) 37 [.str x, .int 8, .bl false] [] S1 = .ok (.bl (made x s2 8)) S2 ∧
    calls Γ (n + 4) 37 [.str x, .int 12, .bl true] [] S2 = .ok (.bl (made x (s2 ++ s0) 12)) S3 ∧ calls Γ (n + 4) 41 [.str x, .bl (made x s2 8), .bl (made x (s2 ++ s0) 12)] [] S3 = .ok (.bl true) S4 ∧ Kp p S S4 := by
  obtain ⟨x, S1, e1, hl, k1⟩ := text_ok (n := n + 1) hp
  have hl' : x.length ≤ lim := by unfold lim; omega
  obtain ⟨o1, e2⟩ : ∃ o, calls Γ (n + 4) 37 [.str x, .int 8, .bl false] [] S1 = .ok (.bl (made x s2 8)) (S1 ++ o) := is_ok (b := false) hl'
  obtain ⟨o2, e3⟩ : ∃ o, calls Γ (n + 4) 37 [.str x, .int 12, .bl true] [] (S1 ++ o1) = .ok (.bl (made x (s2 ++ s0) 12)) (S1 ++ o1 ++ o) := is_ok (b := true) hl'
  obtain ⟨o3, e4⟩ := name_str (n := n + 1) (S := S1 ++ o1 ++ o2) hl'
  obtain ⟨o4, e5⟩ := word_str (n := n + 1) (S := S1 ++ o1 ++ o2 ++ o3) hl'
  have k2 := Kp.app k1.pot o1
  have k3 := Kp.app k2.pot o2
  have k4 := Kp.app k3.pot o3
  have k5 := Kp.app k4.pot o4
  exact ⟨x, S1, _, _, _, e1, e2, e3, right_ok e4 e5, (((k1.trans k2).trans k3).trans k4).trans k5⟩
def oddS (S : Store) : List MO := [.lst [.str ⟨#[97]⟩], .dk [(.inr ⟨#[97]⟩, .int 1)], .lst [], .dk [], .lst [.non, .int 7, .bl true, .ref S.length, .tup [.str ⟨#[97]⟩], .ref (S.length + 1), .ref (S.length + 2), .tup [], .ref (S.length + 3)]]
/-- a thing that is no text -/
theorem odd_ok {n p : Nat} {S : Store} (hp : Pot S p) : ∃ r v S1, calls Γ (n + 3) 24 [.ref p, .int 9] [] (S ++ oddS S) = .ok (.int r) S1 ∧ ixV (.ref (S.length + 4)) (.int r) S1 = some v ∧ calls Γ (n + 3) 41 [v, .bl false, .bl false] [] S1 = .ok (.bl true) S1 ∧ Kp p S S1 := by
  have k0 := Kp.app hp (oddS S)
  obtain ⟨r, S1, e1, a0, a1, k1⟩ := digit (n := n + 2) (m := 9) k0.pot (by omega) (by omega)
  have hlt := pot_lt hp
  have at_ : ∀ (j : Nat) (o : MO), (oddS S)[j]? = some o → S1[S.length + j]? = some o := fun j o h => k1.old _ _ (by rw [List.getElem?_append_right (by omega)]; simpa using h) (by omega)
  have h0 := at_ 0 _ rfl
  have h1 := at_ 1 _ rfl
  have h2 := at_ 2 _ rfl
  have h3 := at_ 3 _ rfl
  have h4 := at_ 4 _ rfl
  have key : ∃ v, atI [MV.non, .int 7, .bl true, .ref S.length, .tup [.str ⟨#[97]⟩], .ref (S.length + 1), .ref (S.length + 2), .tup [], .ref (S.length + 3)] r = some v ∧ isV Γ .str v S1 = some false := by
    have : r = 0 ∨ r = 1 ∨ r = 2 ∨ r = 3 ∨ r = 4 ∨ r = 5 ∨ r = 6 ∨ r = 7 ∨ r = 8 := by omega
    rcases this with rfl | rfl | rfl | rfl | rfl | rfl | rfl | rfl | rfl
    · exact ⟨_, rfl, rfl⟩
    · exact ⟨_, rfl, rfl⟩
    · exact ⟨_, rfl, rfl⟩
    · exact ⟨_, rfl, by simp only [isV, tyC, show S1[S.length]? = _ from h0]; rfl⟩
    · exact ⟨_, rfl, rfl⟩
    · exact ⟨_, rfl, by simp only [isV, tyC, h1]; rfl⟩
    · exact ⟨_, rfl, by simp only [isV, tyC, h2]; rfl⟩
    · exact ⟨_, rfl, rfl⟩
    · exact ⟨_, rfl, by simp only [isV, tyC, h3]; rfl⟩
  obtain ⟨v, e2, e3⟩ := key
  exact ⟨r, v, S1, e1, by rw [ix_ref (rdL_lst h4)]; exact e2, right_ok (name_odd e3) (word_odd e3), k0.trans k1⟩
def outB : MS := match d_law.body with
  | .seq (.forr _ _ b) _ => b
  | _ => .skip
def inB : MS := match outB with
  | .seq _ (.seq (.forr _ _ b) _) => b
  | _ => .skip
def ofB : MS := match outB with
  | .seq _ (.seq _ b) => b
  | _ => .skip
theorem outB_eq : outB = .seq (.asg (.nm 2) (.call 20 (.acons (.slot 0) (.acons (.slot 1) .anil)) .anil)) (.seq (.forr (.nm 3) (.irng1 (.cst (.int 3))) inB) ofB) := rfl
theorem in_ok {n p : Nat} {k v a b c : Option MV} {S : Store} (hp : Pot S p) : ∃ b' S', evS Γ (calls Γ (n + 4)) inB [k, v, some (.ref p), a, b, c] S = .nx [k, v, some (.ref p), a, b', c] S' ∧ Kp p S S' := by
  obtain ⟨x, S1, S2, S3, S4, e1, e2, e3, e4, k1⟩ := turn_ok (n := n) hp
  exact ⟨some (.str x), S4, by simp [inB, outB, d_law, e1, e2, e3, e4], k1⟩
theorem of_ok {n p : Nat} {k v a b c : Option MV} {S : Store} (hp : Pot S p) : ∃ c' S', evS Γ (calls Γ (n + 3)) ofB [k, v, some (.ref p), a, b, c] S = .nx [k, v, some (.ref p), a, b, c'] S' ∧ Kp p S S' := by
  obtain ⟨r, x, S1, e1, e2, e3, k1⟩ := odd_ok (n := n) hp
  have e1' : calls Γ (n + 3) 24 [.ref p, .int 9] [] (S ++ oddS S) = .ok (.int r) S1 := e1
  unfold oddS at e1'
  refine ⟨some x, S1, ?_, k1⟩
  simp [ofB, outB, d_law, mapO, pairKey, keyOf, dputs, dput, e1', e2, e3]
theorem out_ok {n k : Nat} {a b c d e : Option MV} {S : Store} {ns : List Int} (h : S[0]? = some (.lk (.lst (ns.map MV.int)))) : ∃ b' c' d' e' S', evS Γ (calls Γ (n + 4)) outB [some (.ref 0), some (.int k), b, c, d, e] S = .nx [some (.ref 0), some (.int k), b', c', d', e'] S' ∧ S'[0]? = some (.lk (.lst (ns.map MV.int))) := by
  obtain ⟨x, y, e1⟩ := pot_ok (n := n + 3) (k := k) h
  have hp : Pot (S ++ [.lst [.int x, .int y]]) S.length := ⟨x, y, get_new⟩
  have h1 : (S ++ [.lst [.int x, .int y]])[0]? = some (.lk (.lst (ns.map MV.int))) := get_old h
  have h0 : 0 ≠ S.length := by
    have := (List.getElem?_eq_some_iff.mp h).1
    omega
  obtain ⟨σ2, S2, e2, ⟨a2, b2, rfl⟩, k2⟩ := forGo_seq (t := .nm 3) (b := fun σ1 S2 => evS Γ (calls Γ (n + 4)) inB σ1 S2) (xs := (List.range 3).map fun (k : Nat) => MV.int (k : Int))
    (J := fun σ S' => (∃ a b, σ = [some (.ref 0), some (.int k), some (.ref S.length), a, b, e]) ∧ Kp S.length (S ++ [.lst [.int x, .int y]]) S') (fun z _ σ S1 ⟨⟨a1, b1, hσ⟩, k1⟩ => by
      subst hσ
      obtain ⟨b2, S2, e3, k3⟩ := in_ok (n := n) (k := some (.ref 0)) (v := some (.int k)) (a := some z) (b := b1) (c := e) k1.pot
      exact ⟨_, _, S2, rfl, e3, ⟨_, _, rfl⟩, k1.trans k3⟩) 3 0 [some (.ref 0), some (.int k), some (.ref S.length), c, d, e] (S ++ [.lst [.int x, .int y]]) rfl ⟨⟨c, d, rfl⟩, Kp.refl hp⟩
  obtain ⟨c3, S3, e3, k3⟩ := of_ok (n := n + 1) (k := some (.ref 0)) (v := some (.int k)) (a := a2) (b := b2) (c := e) k2.pot
  refine ⟨some (.ref S.length), a2, b2, c3, S3, ?_, (k2.trans k3).old 0 _ h1 h0⟩
  rw [outB_eq]
  have r3 : (List.range (3 : Int).toNat) = List.range 3 := rfl
  simp only [evS_asg, evE_call, evA_cons, evE_slot, evA_nil, evK_nil, List.getElem?_cons_zero, List.getElem?_cons_succ, Out.bind_ok, e1, thenS_ok, setT_nm, List.set_cons_succ, List.set_cons_zero, SR.andThen_nx, evS_seq, evS_for, evI_rng1, evE_cst]
  rw [if_pos (by omega)]
  simp only [thenS_ok]
  have e2' : forGo (.nm 3) (fun σ1 S2 => evS Γ (calls Γ (n + 4)) inB σ1 S2) (.seq ((List.range (3 : Int).toNat).map fun (k : Nat) => MV.int (k : Int))) (IT.seq ((List.range (3 : Int).toNat).map fun (k : Nat) => MV.int (k : Int))).count 0 [some (.ref 0), some (.int k), some (.ref S.length), c, d, e] (S ++ [.lst [.int x, .int y]]) = _ := e2
  rw [e2']
  simp only [SR.andThen_nx]
  exact e3
theorem law_ok (ns : List Int) (hl : ns.length ≤ 63) : ∃ S', full Γ 7 43 [.ref 0] [.lk (.lst (ns.map MV.int))] = .ok (.bl true) S' := by
  rw [full_fn (d := d_law) rfl]
  have hr : rdL [.lk (.lst (ns.map MV.int))] 0 = some (ns.map MV.int) := rfl
  have hln : bltV .len [.ref 0] [.lk (.lst (ns.map MV.int))] = .ok (.int ns.length) [.lk (.lst (ns.map MV.int))] := by rw [blt_len (len_ref hr)]; simp
  have hb : d_law.body = .seq (.forr (.nm 1) (.irng1 (.blt .max (.acons (.cst (.int 1)) (.acons (.blt .min (.acons (.cst (.int 4)) (.acons (.blt .len (.acons (.slot 0) .anil) .anil) .anil)) .anil) .anil)) .anil)) outB) (.seq (.ret (.cst (.bl true))) .skip) := rfl
  obtain ⟨j, hj⟩ : ∃ j : Int, (if (if (ns.length : Int) < 4 then (ns.length : Int) else 4) > 1 then (if (ns.length : Int) < 4 then (ns.length : Int) else 4) else 1) = j := ⟨_, rfl⟩
  have j0 : 0 ≤ j := by rw [← hj]; split <;> omega
  have j1 : j ≤ 4 := by rw [← hj]; split <;> (try split) <;> omega
  obtain ⟨σ2, S2, e2, _⟩ := forGo_seq (t := .nm 1) (b := fun σ1 S2 => evS Γ (calls Γ 6) outB σ1 S2) (xs := (List.range j.toNat).map fun (k : Nat) => MV.int (k : Int))
    (J := fun σ S' => (∃ a b c d e, σ = [some (.ref 0), a, b, c, d, e]) ∧ S'[0]? = some (.lk (.lst (ns.map MV.int)))) (fun z hz σ S1 ⟨⟨a, b, c, d, e, hσ⟩, h0⟩ => by
      subst hσ
      obtain ⟨k, _, rfl⟩ := List.mem_map.mp hz
      obtain ⟨b', c', d', e', S', e3, h1⟩ := out_ok (n := 2) (k := k) (a := a) (b := b) (c := c) (d := d) (e := e) h0
      exact ⟨_, _, S', rfl, e3, ⟨_, _, _, _, _, rfl⟩, h1⟩) j.toNat 0 [some (.ref 0), none, none, none, none, none] [.lk (.lst (ns.map MV.int))] (by simp) ⟨⟨_, _, _, _, _, rfl⟩, rfl⟩
  refine ⟨S2, runD_rt (m := σ2) ?_⟩
  rw [hb]
  show evS Γ (calls Γ 6) _ [some (.ref 0), none, none, none, none, none] _ = _
  simp only [evS_seq, evS_for, evI_rng1, evE_blt, evA_cons, evA_nil, evE_cst, evE_slot, List.getElem?_cons_zero, Out.bind_ok, hln, blt_min, blt_max, hj]
  rw [if_pos (by omega)]
  simp only [thenS_ok]
  have e2' : forGo (.nm 1) (fun σ1 S2 => evS Γ (calls Γ 6) outB σ1 S2) (.seq ((List.range j.toNat).map fun (k : Nat) => MV.int (k : Int))) (IT.seq ((List.range j.toNat).map fun (k : Nat) => MV.int (k : Int))).count 0 [some (.ref 0), none, none, none, none, none] [.lk (.lst (ns.map MV.int))] = .nx σ2 S2 := by
    rw [← e2]
    congr 1
    simp [IT.count]
  rw [e2']
  rfl

theorem tab_ok : tab.chk = true := by decide +kernel
abbrev R : PySem.W.OpenRow := PySem.W.OpenLaw.row PySem.Challenge.rw_walkbox_k11_names_and_words
abbrev hk : PySem.W.Hook := hookF 4 tab.ex tab.fa tab.fn
def ob (s : PySem.W.SharedT) : AlF := obsFG 4 tab.ex tab.fa tab.fn (HandSHeadRun.getT s)
theorem ob_eq (s : PySem.W.SharedT) : ob s = hk.obs s.abs := obsFG_eq (HandSHeadRun.getT_eq s)
theorem run (w : World) : HandSHeadRun.RunEq R (PySem.W.view R.prog [15]) hk ob 30000 loose w := by
  intro os
  kernel_rfl
theorem walk : PySem.W.WalkO (PySem.W.view R.prog [15]) loose (PySem.W.XL (PySem.W.view R.prog [15]) []) hk.says R.toRowW (HandSHeadRun.topDef R.prog 15) [] (fun f vs => PySem.call f vs) :=
  walk_tab (n := 7) (g := 43) (k := 4) (p := 17) (en := d_law) tab_ok rfl (by kernel_rfl) ⟨rfl, by decide, by decide⟩ rfl rfl rfl (by kernel_rfl) rfl law_ok
end FE.Law
open PySem PySem.W PySem.Calls PyProof.Rows
theorem PySem.Challenge.cw_walkbox_k11_names_and_words_holds : PySem.Challenge.rw_walkbox_k11_names_and_words.Holds := by
  w_on; o_law
  refine HandSHeadRun.head_any (r := OpenLaw.row PySem.Challenge.rw_walkbox_k11_names_and_words) (q := view (OpenLaw.row PySem.Challenge.rw_walkbox_k11_names_and_words).prog [15]) (H := FE.Law.hk) (ob := FE.Law.ob) (M := 30000) (loose := FE.Law.loose) (d := HandSHeadRun.topDef (OpenLaw.row PySem.Challenge.rw_walkbox_k11_names_and_words).prog 15) (kwd := []) FE.Law.ob_eq
    (by kernel_rfl) (fun s => by kernel_rfl) FE.Law.run (by kernel_rfl) (by kernel_rfl) (by kernel_rfl) (by rfl) (by first | assumption | decide +kernel) (by decide +kernel) ⟨rfl, rfl, rfl, rfl, rfl, by decide +kernel⟩ ?hw ?hc
  case hw => w_witness2
  case hc => exact FE.Law.walk
