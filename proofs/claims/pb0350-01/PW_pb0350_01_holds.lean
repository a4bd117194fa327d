import PyProof.Rows.All
import Wide.All
import OpenK.AllK
import Wide.FinOn
import PySem.Challenge.RW_pb0350_01
set_option Elab.async false
set_option genSizeOf false
set_option genInjectivity false
set_option linter.unusedSimpArgs false
set_option linter.unusedVariables false
set_option linter.unusedSectionVars false
section
open PySem PySem.W PyProof.Rows
namespace Mini
section
local macro_rules | `(tactic| o_head $H) => `(tactic| (assumption; exact $H))
set_option maxRecDepth 100000 in
set_option maxHeartbeats 0 in
noncomputable def KH (h:(OpenLaw.row PySem.Challenge.rw_pb0350_01).Holds):Hook:=by
 refine (fun (_:(OpenLaw.row PySem.Challenge.rw_pb0350_01).Holds) (x:Hook) => x) ?_ ?_
 k_head
end
end Mini
end
section
namespace Mini
open PySem
inductive Atom where
 | int (i:Int)
 | str (s:Str)
 deriving DecidableEq
set_option genSizeOf false in
inductive V where
 | none
 | bool (b:Bool)
 | int (i:Int)
 | str (s:Str)
 | tup (xs:List V)
 | ref (a:Addr)
inductive Key where
 | one (x:Atom)
 | tp (xs:List Atom)
 deriving DecidableEq
noncomputable def V.atom?:V → Option Atom
 | .int i => some (.int i)
 | .str s => some (.str s)
 | _ => Option.none
noncomputable def atoms?:List V → Option (List Atom)
 | [] => some []
 | v :: r => match v.atom?, atoms? r with
  | some a, some l => some (a :: l)
  | _, _ => Option.none
noncomputable def V.key?:V → Option Key
 | .int i => some (.one (.int i))
 | .str s => some (.one (.str s))
 | .tup xs => match atoms? xs with
  | some l => some (.tp l)
  | Option.none => Option.none
 | _ => Option.none
noncomputable def Atom.v:Atom → V
 | .int i => .int i
 | .str s => .str s
noncomputable def Key.v:Key → V
 | .one a => a.v
 | .tp l => .tup (l.map Atom.v)
noncomputable def Key.isTp:Key → Bool
 | .one _ => false
 | .tp _ => true
set_option genSizeOf false in
inductive MObj where
 | list (xs:List V)
 | dict (es:List (Key × V))
 | inst (dx:Addr)
 | attrs (es:List (Str × V))
 | frozen (xs:List V)
 | fdict (es:List (Key × V))
noncomputable abbrev Store:=Addr → Option MObj
noncomputable def Store.set (σ:Store) (a:Addr) (o:MObj):Store:=fun b => if b = a then some o else σ b
section
variable {K α:Type} [DecidableEq K]
noncomputable def aget (es:List (K × α)) (k:K):Option α:=(es.find? fun e => e.1 = k).map (·.2)
noncomputable def aset (es:List (K × α)) (k:K) (v:α):List (K × α) :=
 if es.any (fun e => e.1 = k) then es.map (fun e => if e.1 = k then (e.1, v) else e) else es ++ [(k, v)]
end
noncomputable def aput:List (Str × V) → Str → V → List (Str × V)
 | [], x, v => [(x, v)]
 | e :: r, x, v => if e.1 = x then (e.1, v) :: r else e :: aput r x v
noncomputable abbrev Loc:=List (Str × V)
noncomputable def Loc.get (ρ:Loc) (x:Str):Option V:=aget ρ x
noncomputable def Loc.set (ρ:Loc) (x:Str) (v:V):Loc:=aset ρ x v
noncomputable abbrev Spec:=List V → Store → (V → Store → Prop) → Prop
structure GE where
 glob:Str → Option V
 fn:Str → Option Spec
 meth:Str → Option Spec
noncomputable def and2 (a b:Option Bool):Option Bool:=a.bind fun x => b.bind fun y => some (x && y)
noncomputable def allW (f:V → V → Option Bool):List V → List V → Option Bool
 | [], [] => some true
 | [], _ :: _ => some false
 | _ :: _, [] => some false
 | x :: xs, y :: ys => and2 (f x y) (allW f xs ys)
noncomputable def eqS (t:List V → List V → Option Bool) (rf:Addr → Addr → Option Bool) (u v:V):Option Bool :=
 match u with
 | .none => match v with
  | .none => some true
  | .tup _ => some false
  | .int _ => Option.none
  | .str _ => Option.none
  | .bool _ => Option.none
  | .ref _ => Option.none
 | .int a => match v with
  | .int b => some (decide (a = b))
  | .str _ => some false
  | .none => Option.none
  | .tup _ => Option.none
  | .bool _ => Option.none
  | .ref _ => Option.none
 | .str a => match v with
  | .str b => some (decide (a = b))
  | .int _ => some false
  | .none => Option.none
  | .tup _ => Option.none
  | .bool _ => Option.none
  | .ref _ => Option.none
 | .tup xs => match v with
  | .none => some false
  | .tup ys => t xs ys
  | .int _ => Option.none
  | .str _ => Option.none
  | .bool _ => Option.none
  | .ref _ => Option.none
 | .ref a => match v with
  | .ref b => rf a b
  | .none => Option.none
  | .tup _ => Option.none
  | .int _ => Option.none
  | .str _ => Option.none
  | .bool _ => Option.none
 | .bool _ => Option.none
noncomputable def eqA:Nat → V → V → Option Bool
 | 0 => eqS (fun _ _ => Option.none) fun _ _ => Option.none
 | n + 1 => eqS (allW (eqA n)) fun _ _ => Option.none
noncomputable def subStep (k:Key) (u:Option V) (cmp:V → Option Bool) (rest:Option Bool):Option Bool :=
 match k with
 | .tp _ => Option.none
 | .one _ => match u with
  | Option.none => rest.bind fun _ => some false
  | some u => rest.bind fun b => (cmp u).bind fun a => some (a && b)
noncomputable def deqL (xs ys:List V):Option Bool:=if xs.length ≠ ys.length then some false else allW (eqA 3) xs ys
noncomputable def subW (f:V → V → Option Bool) (fs:List (Key × V)):List (Key × V) → Option Bool
 | [] => some true
 | e :: es => subStep e.1 (aget fs e.1) (f e.2) (subW f fs es)
noncomputable def deqD (d:Option (V → V → Option Bool)) (a b:Addr) (es fs:List (Key × V)):Option Bool:=d.bind fun f =>
 if a = b ∨ (fs.any fun e => e.1.isTp) = true then Option.none else (subW f fs es).map (es.length == fs.length && ·)
noncomputable def deqR (σ:Store) (d:Option (V → V → Option Bool)) (a b:Addr):Option Bool:=match σ a with
 | some (.list xs) => match σ b with
  | some (.list ys) => deqL xs ys
  | _ => Option.none
 | some (.dict es) => match σ b with
  | some (.dict fs) => deqD d a b es fs
  | _ => Option.none
 | _ => Option.none
noncomputable def deqV (σ:Store):Nat → V → V → Option Bool
 | 0 => eqS (allW (eqA 3)) (deqR σ Option.none)
 | n + 1 => eqS (allW (eqA 3)) (deqR σ (some (deqV σ n)))
noncomputable def deqT (σ:Store):List V → List V → Option Bool
 | [], [] => some true
 | [], _ :: _ => Option.none
 | _ :: _, [] => Option.none
 | x :: xs, y :: ys => and2 (deqV σ 2 x y) (deqT σ xs ys)
noncomputable def strsOf:List V → Option (List Str)
 | [] => some []
 | .str s :: r => (strsOf r).map (s :: ·)
 | _ :: _ => Option.none
noncomputable def V.isNone:V → Bool
 | .none => true
 | _ => false
noncomputable def V.isTup:V → Bool
 | .tup _ => true
 | _ => false
noncomputable def pyIdx (n:Nat) (i:Int):Option Nat:=if 0 ≤ i ∧ i < n ∧ i < 2 ^ 62 then some i.toNat else Option.none
noncomputable def MulOk (a b:Int):Prop:=a.natAbs < 2 ^ 64 ∨ b.natAbs < 2 ^ 64
noncomputable def newObj (σ:Store) (o:MObj) (Q:V → Store → Prop):Prop:=∀ b, σ b = Option.none → Q (.ref b) (σ.set b o)
noncomputable def V.int1 (v:V) (f:Int → Prop):Prop:=match v with
 | .int i => f i
 | _ => False
noncomputable def V.str1 (v:V) (f:Str → Prop):Prop:=match v with
 | .str i => f i
 | _ => False
noncomputable def V.ref1 (v:V) (f:Addr → Prop):Prop:=match v with
 | .ref i => f i
 | _ => False
noncomputable def V.none1 (v:V) (p:Prop):Prop:=match v with
 | .none => p
 | _ => False
theorem V.of_int1 {v:V} {f:Int → Prop} (h:v.int1 f):∃ i, v = .int i ∧ f i:=by cases v <;> first | exact ⟨_, rfl, h⟩ | exact False.elim h
theorem V.of_str1 {v:V} {f:Str → Prop} (h:v.str1 f):∃ i, v = .str i ∧ f i:=by cases v <;> first | exact ⟨_, rfl, h⟩ | exact False.elim h
theorem V.of_ref1 {v:V} {f:Addr → Prop} (h:v.ref1 f):∃ i, v = .ref i ∧ f i:=by cases v <;> first | exact ⟨_, rfl, h⟩ | exact False.elim h
theorem V.of_none1 {v:V} {p:Prop} (h:v.none1 p):v = .none ∧ p:=by cases v <;> first | exact ⟨rfl, h⟩ | exact False.elim h
noncomputable def nat1 (i:Int) (f:Nat → Prop):Prop:=match i with
 | .ofNat n => f n
 | .negSucc _ => False
theorem of_nat1 {i:Int} {f:Nat → Prop} (h:nat1 i f):∃ n, i = .ofNat n ∧ f n:=by cases i <;> first | exact ⟨_, rfl, h⟩ | exact False.elim h
noncomputable def nil1 (vs:List V) (p:Prop):Prop:=match vs with
 | [] => p
 | _ :: _ => False
noncomputable def one1 (vs:List V) (f:V → Prop):Prop:=match vs with
 | [] => False
 | v :: r => nil1 r (f v)
noncomputable def two1 (vs:List V) (f:V → V → Prop):Prop:=match vs with
 | [] => False
 | v :: r => one1 r (f v)
theorem of_nil1 {vs:List V} {p:Prop} (h:nil1 vs p):vs = [] ∧ p:=by cases vs <;> first | exact ⟨rfl, h⟩ | exact False.elim h
theorem of_one1 {vs:List V} {f:V → Prop} (h:one1 vs f):∃ v, vs = [v] ∧ f v:=by
 cases vs with
 | nil => exact False.elim h
 | cons v r => obtain ⟨rfl, h⟩:=of_nil1 h; exact ⟨v, rfl, h⟩
theorem of_two1 {vs:List V} {f:V → V → Prop} (h:two1 vs f):∃ v u, vs = [v, u] ∧ f v u:=by
 cases vs with
 | nil => exact False.elim h
 | cons v r => obtain ⟨u, rfl, h⟩:=of_one1 h; exact ⟨v, u, rfl, h⟩
theorem mobj (o:Option MObj):o = Option.none ∨ (∃ xs, o = some (.list xs)) ∨ (∃ es, o = some (.dict es)) ∨ (∃ dx, o = some (.inst dx)) ∨ (∃ es, o = some (.attrs es)) ∨ (∃ xs, o = some (.frozen xs)) ∨ ∃ es, o = some (.fdict es):=by
 cases o with
 | none => exact .inl rfl
 | some o => cases o with
  | list x => exact .inr (.inl ⟨x, rfl⟩)
  | dict x => exact .inr (.inr (.inl ⟨x, rfl⟩))
  | inst x => exact .inr (.inr (.inr (.inl ⟨x, rfl⟩)))
  | attrs x => exact .inr (.inr (.inr (.inr (.inl ⟨x, rfl⟩))))
  | frozen x => exact .inr (.inr (.inr (.inr (.inr (.inl ⟨x, rfl⟩)))))
  | fdict x => exact .inr (.inr (.inr (.inr (.inr (.inr ⟨x, rfl⟩)))))
noncomputable def addW (u v:V) (σ:Store) (Q:V → Store → Prop):Prop:=match u with
 | .int a => v.int1 fun b => Q (.int (a + b)) σ
 | .str a => v.str1 fun b => a.length + b.length ≤ 1000 ∧ Q (.str (a ++ b)) σ
 | .ref a => v.ref1 fun b => ∃ xs ys, σ a = some (.list xs) ∧ σ b = some (.list ys) ∧ xs.length + ys.length ≤ 1000 ∧ newObj σ (.list (xs ++ ys)) Q
 | _ => False
noncomputable def mulW (u v:V) (σ:Store) (Q:V → Store → Prop):Prop:=match u with
 | .int a => v.int1 fun b => MulOk a b ∧ Q (.int (a * b)) σ
 | .ref a => v.int1 fun n => ∃ x, σ a = some (.list [x]) ∧ 0 ≤ n ∧ n ≤ 1000 ∧ newObj σ (.list (List.replicate n.toNat x)) Q
 | _ => False
noncomputable def binOp (op:Operator) (u v:V) (σ:Store) (Q:V → Store → Prop):Prop:=match op with
 | .Add => addW u v σ Q
 | .Mult => mulW u v σ Q
 | .Sub => u.int1 fun a => v.int1 fun b => Q (.int (a - b)) σ
 | .FloorDiv => u.int1 fun a => v.int1 fun b => b ≠ 0 ∧ b.natAbs < 2 ^ 64 ∧ Q (.int (a.fdiv b)) σ
 | .Mod => u.int1 fun a => v.int1 fun b => b ≠ 0 ∧ Q (.int (a.fmod b)) σ
 | .Pow => u.int1 fun a => v.int1 fun n => 0 ≤ n ∧ n ≤ 1000 ∧ a.natAbs < 2 ^ 64 ∧ Q (.int (a ^ n.toNat)) σ
 | .LShift => u.int1 fun a => v.int1 fun n => 0 ≤ n ∧ n ≤ 1000 ∧ a.natAbs < 2 ^ 64 ∧ Q (.int (a * 2 ^ n.toNat)) σ
 | .RShift => u.int1 fun a => v.int1 fun n => 0 ≤ n ∧ Q (.int (a.fdiv (2 ^ n.toNat))) σ
 | .BitAnd => u.int1 fun a => v.int1 fun b => Q (.int (Builtin.bitAnd a b)) σ
 | .BitOr => u.int1 fun a => v.int1 fun b => Q (.int (Builtin.bitOr a b)) σ
 | .BitXor => u.int1 fun a => v.int1 fun b => Q (.int (Builtin.bitXor a b)) σ
 | .MatMult => False
 | .Div => False
noncomputable def isIn (σ:Store) (x c:V) (Q:Bool → Prop):Prop :=
 match c with
 | .tup ys => ∃ t ss, x = .str t ∧ strsOf ys = some ss ∧ Q (ss.contains t)
 | .ref a => match σ a with
  | some (.list ys) => ∃ t ss, x = .str t ∧ strsOf ys = some ss ∧ Q (ss.contains t)
  | some (.dict es) => ∃ k, x.key? = some k ∧ (∀ e ∈ es, e.1.isTp = k.isTp) ∧ Q (aget es k).isSome
  | _ => False
 | _ => False
noncomputable def cmpOp (op:CmpOp) (a b:V) (σ:Store) (Q:Bool → Prop):Prop:=match op with
 | .Eq => ∃ r, deqV σ 0 a b = some r ∧ Q r
 | .NotEq => (∃ r, deqV σ 0 a b = some r ∧ Q (!r)) ∨ ∃ xs ys r, a = .tup xs ∧ b = .tup ys ∧ deqT σ xs ys = some r ∧ Q (!r)
 | .Lt => a.int1 fun a => b.int1 fun b => Q (decide (a < b))
 | .LtE => a.int1 fun a => b.int1 fun b => Q (decide (a ≤ b))
 | .Gt => a.int1 fun a => b.int1 fun b => Q (decide (a > b))
 | .GtE => a.int1 fun a => b.int1 fun b => Q (decide (a ≥ b))
 | .Is => b.none1 (Q a.isNone)
 | .IsNot => b.none1 (Q (!a.isNone))
 | .In => isIn σ a b Q
 | .NotIn => isIn σ a b fun r => Q (!r)
noncomputable def getItemW (o i:V) (σ:Store) (Q:V → Store → Prop):Prop :=
 match o with
 | .tup xs => i.int1 fun n => ∃ j v, pyIdx xs.length n = some j ∧ xs[j]? = some v ∧ Q v σ
 | .str s => i.int1 fun n => (fitsSsize n && (Txt.charAt s n).isSome) = true ∧ Q (.str (Txt.item s n)) σ
 | .ref a => match σ a with
  | some (.list xs) => ∃ n j v, i = .int n ∧ pyIdx xs.length n = some j ∧ xs[j]? = some v ∧ Q v σ
  | some (.dict es) => ∃ k v, i.key? = some k ∧ (∀ e ∈ es, e.1.isTp = k.isTp) ∧ aget es k = some v ∧ Q v σ
  | some (.fdict es) => ∃ k v, i.key? = some k ∧ (∀ e ∈ es, e.1.isTp = k.isTp) ∧ aget es k = some v ∧ Q v σ
  | _ => False
 | _ => False
noncomputable def sliceW (o lo hi:V) (σ:Store) (Q:V → Store → Prop):Prop :=
 match o with
 | .tup xs => lo.int1 fun i => nat1 i fun n => hi.none1 (1 ≤ n ∧ n ≤ xs.length ∧ xs.length ≤ 1000 ∧ Q (.tup (xs.drop n)) σ)
 | .str s => match lo with
  | .int i => hi.none1 (s.length ≤ 1000 ∧ Q (.str (Txt.slice s (some i) Option.none)) σ)
  | .none => hi.int1 fun i => s.length ≤ 1000 ∧ Q (.str (Txt.slice s Option.none (some i))) σ
  | _ => False
 | .ref a => lo.none1 (hi.int1 fun i => nat1 i fun n => n ≤ 1000 ∧ ((∃ xs, σ a = some (.list xs) ∧ xs.length ≤ 100000 ∧ newObj σ (.list (xs.take n)) Q) ∨ ∃ xs, σ a = some (.frozen xs) ∧ xs.length ≤ 100000 ∧ newObj σ (.list (xs.take n)) Q))
 | _ => False
noncomputable def setItemW (o i v:V) (σ:Store) (Q:Store → Prop):Prop :=
 match o with
 | .ref a => match σ a with
  | some (.list xs) => ∃ n j, i = .int n ∧ xs.length ≤ 100000 ∧ pyIdx xs.length n = some j ∧ Q (σ.set a (.list (xs.set j v)))
  | some (.dict es) => ∃ k, i.key? = some k ∧ (∀ e ∈ es, e.1.isTp = k.isTp) ∧ es.length ≤ 100000 ∧ Q (σ.set a (.dict (aset es k v)))
  | _ => False
 | _ => False
noncomputable def getAttrW (o:V) (x:Str) (σ:Store) (Q:V → Store → Prop):Prop :=
 match o with
 | .ref a => ∃ dx es v, σ a = some (.inst dx) ∧ σ dx = some (.attrs es) ∧ aget es x = some v ∧ Q v σ
 | _ => False
noncomputable def setAttrW (o:V) (x:Str) (v:V) (σ:Store) (Q:Store → Prop):Prop :=
 match o with
 | .ref a => ∃ dx es, σ a = some (.inst dx) ∧ σ dx = some (.attrs es) ∧ es.length ≤ 100 ∧ Q (σ.set dx (.attrs (aput es x v)))
 | _ => False
inductive BFn where
 | len | abs | list | sum
 deriving DecidableEq
noncomputable def intsOf:List V → Option (List Int)
 | [] => some []
 | .int i :: r => (intsOf r).map (i :: ·)
 | _ :: _ => Option.none
noncomputable def bcallW (b:BFn) (vs:List V) (σ:Store) (Q:V → Store → Prop):Prop :=
 match b with
 | .abs => one1 vs fun v => v.int1 fun i => Q (.int i.natAbs) σ
 | .len => one1 vs fun v => v.ref1 fun a => match σ a with
  | some (.list xs) => xs.length ≤ 100000 ∧ Q (.int xs.length) σ
  | some (.dict es) => es.length ≤ 100000 ∧ (∀ e ∈ es, e.1.isTp = false) ∧ Q (.int es.length) σ
  | _ => False
 | .list => one1 vs fun v => v.ref1 fun a => match σ a with
  | some (.list xs) => xs.length ≤ 100000 ∧ newObj σ (.list xs) Q
  | _ => False
 | .sum => one1 vs fun v => v.ref1 fun a => match σ a with
  | some (.list xs) => ∃ ns, intsOf xs = some ns ∧ xs.length ≤ 1000 ∧ (∀ n ∈ ns, 0 ≤ n ∧ n < 2 ^ 40) ∧ Q (.int ns.sum) σ
  | _ => False
set_option genSizeOf false in
set_option genInjectivity false in
inductive MKind where
 | own (f:Spec)
 | append | pop | reverse | count | get
noncomputable def methKind (Γ:GE) (σ:Store) (o:V) (x:Str) (Q:MKind → Prop):Prop :=
 match o with
 | .ref a => match σ a with
  | some (.list _) =>
   if x = ("append":Str) then Q .append else if x = ("pop":Str) then Q .pop else if x = ("reverse":Str) then Q .reverse
   else if x = ("count":Str) then Q .count else False
  | some (.dict _) => if x = ("get":Str) then Q .get else False
  | some (.inst dx) => ∃ es spec, σ dx = some (.attrs es) ∧ aget es x = Option.none ∧ Γ.meth x = some spec ∧ Q (.own spec)
  | _ => False
 | _ => False
noncomputable def methW (k:MKind) (o:V) (vs:List V) (σ:Store) (Q:V → Store → Prop):Prop :=
 match k with
 | .own spec => spec (o :: vs) σ Q
 | .append => o.ref1 fun a => one1 vs fun v => ∃ xs, σ a = some (.list xs) ∧ xs.length ≤ 100000 ∧ Q .none (σ.set a (.list (xs ++ [v])))
 | .pop => o.ref1 fun a => nil1 vs (∃ ys v, σ a = some (.list (ys ++ [v])) ∧ ys.length ≤ 100000 ∧ Q v (σ.set a (.list ys)))
 | .reverse => o.ref1 fun a => nil1 vs (∃ xs, σ a = some (.list xs) ∧ xs.length ≤ 100000 ∧ Q .none (σ.set a (.list xs.reverse)))
 | .count => o.ref1 fun a => one1 vs fun v => v.none1 (∃ xs, σ a = some (.list xs) ∧ xs.length ≤ 100000 ∧ (∀ x ∈ xs, x.isNone = true ∨ x.isTup = true) ∧ Q (.int (xs.countP V.isNone)) σ)
 | .get => o.ref1 fun a => two1 vs fun i d => ∃ es k, σ a = some (.dict es) ∧ i.key? = some k ∧ (∀ e ∈ es, e.1.isTp = k.isTp) ∧ Q ((aget es k).getD d) σ
noncomputable def truthW (v:V) (Q:Bool → Prop):Prop :=
 match v with
 | .bool b => Q b
 | _ => False
noncomputable def rangeInts (a b c:Int):List V :=
 (List.range (if c = 1 then (b - a).toNat else (a - b).toNat)).map fun (i:Nat) => V.int (a + i * c)
noncomputable def rangeW (vs:List V) (Q:List V → Prop):Prop :=
 match vs with
 | [] => False
 | x :: r => match r with
  | [] => x.int1 fun b => -100000 ≤ b ∧ b ≤ 100000 ∧ Q (rangeInts 0 b 1)
  | y :: r => match r with
   | [] => x.int1 fun a => y.int1 fun b => -100000 ≤ a ∧ a ≤ 100000 ∧ -100000 ≤ b ∧ b ≤ 100000 ∧ Q (rangeInts a b 1)
   | z :: r => nil1 r (x.int1 fun a => y.int1 fun b => z.int1 fun c => -100000 ≤ a ∧ a ≤ 100000 ∧ -100000 ≤ b ∧ b ≤ 100000 ∧ c = -1 ∧ Q (rangeInts a b (-1)))
set_option genSizeOf false in
set_option genInjectivity false in
inductive X where
 | lit (v:V)
 | var (x:Str)
 | glob (x:Str)
 | bin (op:Operator) (a b:X)
 | neg (a:X)
 | not_ (a:X)
 | boolop (isOr:Bool) (xs:List X)
 | ite (c a b:X)
 | cmp (op:CmpOp) (a b:X)
 | chain (a:X) (o1:CmpOp) (b:X) (o2:CmpOp) (c:X)
 | call (f:Str) (args:List X)
 | bcall (b:BFn) (args:List X)
 | meth (o:X) (f:Str) (args:List X)
 | attr (o:X) (x:Str)
 | sub (o i:X)
 | slice (o:X) (lo hi:Option X)
 | tup (xs:List X)
 | list (xs:List X)
 | dict (ks:List Str) (vs:List X)
 | lcomp (e:X) (x:Str) (it:X) (ifs:List X)
 | dcomp (k v:X) (x:Str) (it:X) (ifs:List X)
 | range (args:List X)
noncomputable def compLoop {β:Type} (guard:Store → Prop) (tests:Loc → Store → (Bool → Store → Prop) → Prop) (elt:β → Loc → Store → (β → Store → Prop) → Prop) (x:Str) (ρ:Loc) :
  List V → β → Store → (β → Store → Prop) → Prop
 | [], acc, σ, Q => guard σ ∧ Q acc σ
 | v :: vs, acc, σ, Q => guard σ ∧ tests (ρ.set x v) σ fun b σ₁ =>
   if b then elt acc (ρ.set x v) σ₁ fun acc' σ₂ => compLoop guard tests elt x ρ vs acc' σ₂ Q else compLoop guard tests elt x ρ vs acc σ₁ Q
noncomputable abbrev ItQ:=List V → (Store → Prop) → Store → (Store → Store) → Prop
noncomputable def iterVal (v:V) (σ:Store) (Q:ItQ):Prop :=
 match v with
 | .tup xs => Q xs (fun _ => True) σ id
 | .ref a => match σ a with
  | some (.list xs) => xs.length ≤ 100000 ∧ Q xs (fun σ' => σ' a = some (.list xs)) σ id
  | some (.dict es) => es.length ≤ 100000 ∧ ((∀ e ∈ es, e.1.isTp = false) ∨ ∀ e ∈ es, e.1.isTp = true) ∧
    Q (es.map fun e => e.1.v) (fun σ' => σ' a = some (.fdict es)) (σ.set a (.fdict es)) fun σ' => σ'.set a (.dict es)
  | _ => False
 | _ => False
mutual
noncomputable def wX (Γ:GE):X → Loc → Store → (V → Store → Prop) → Prop
 | .lit v, _, σ, Q => Q v σ
 | .var x, ρ, σ, Q => ∃ v, ρ.get x = some v ∧ Q v σ
 | .glob x, _, σ, Q => ∃ v, Γ.glob x = some v ∧ Q v σ
 | .bin op a b, ρ, σ, Q => wX Γ a ρ σ fun u σ₁ => wX Γ b ρ σ₁ fun v σ₂ => binOp op u v σ₂ Q
 | .neg a, ρ, σ, Q => wX Γ a ρ σ fun u σ₁ => ∃ i, u = .int i ∧ Q (.int (-i)) σ₁
 | .not_ a, ρ, σ, Q => wX Γ a ρ σ fun u σ₁ => truthW u fun b => Q (.bool (!b)) σ₁
 | .boolop isOr xs, ρ, σ, Q => wBool Γ isOr xs ρ σ Q
 | .ite c a b, ρ, σ, Q => wT Γ c ρ σ fun t σ₁ => if t then wX Γ a ρ σ₁ Q else wX Γ b ρ σ₁ Q
 | .cmp op a b, ρ, σ, Q => wX Γ a ρ σ fun u σ₁ => wX Γ b ρ σ₁ fun v σ₂ => cmpOp op u v σ₂ fun r => Q (.bool r) σ₂
 | .chain .., _, _, _ => False
 | .call f args, ρ, σ, Q => ∃ spec, Γ.fn f = some spec ∧ wXs Γ args ρ σ fun vs σ₁ => spec vs σ₁ Q
 | .bcall b args, ρ, σ, Q => wXs Γ args ρ σ fun vs σ₁ => bcallW b vs σ₁ Q
 | .meth o f args, ρ, σ, Q => wX Γ o ρ σ fun u σ₁ => methKind Γ σ₁ u f fun k => wXs Γ args ρ σ₁ fun vs σ₂ => methW k u vs σ₂ Q
 | .attr o x, ρ, σ, Q => wX Γ o ρ σ fun u σ₁ => getAttrW u x σ₁ Q
 | .sub o i, ρ, σ, Q => wX Γ o ρ σ fun u σ₁ => wX Γ i ρ σ₁ fun v σ₂ => getItemW u v σ₂ Q
 | .slice o lo hi, ρ, σ, Q => wX Γ o ρ σ fun u σ₁ => wOpt Γ lo ρ σ₁ fun l σ₂ => wOpt Γ hi ρ σ₂ fun h σ₃ => sliceW u l h σ₃ Q
 | .tup xs, ρ, σ, Q => wXs Γ xs ρ σ fun vs σ₁ => Q (.tup vs) σ₁
 | .list xs, ρ, σ, Q => wXs Γ xs ρ σ fun vs σ₁ => newObj σ₁ (.list vs) Q
 | .dict ks xs, ρ, σ, Q => wPairs Γ xs ks ρ σ fun es σ₁ => newObj σ₁ (.dict (es.foldl (fun d (e:Key × V) => aset d e.1 e.2) [])) Q
 | .lcomp e x it ifs, ρ, σ, Q => wIter Γ it ρ σ fun items guard σ₁ unf => items.length ≤ 1000 ∧
   compLoop guard (fun ρ' σ' Q' => wIfs Γ ifs ρ' σ' Q') (fun (acc:List V) ρ' σ' Q' => wX Γ e ρ' σ' fun v σ'' => Q' (acc ++ [v]) σ'') x ρ items [] σ₁
    fun vs σ₂ => newObj (unf σ₂) (.list vs) Q
 | .dcomp k w x it ifs, ρ, σ, Q => wIter Γ it ρ σ fun items guard σ₁ unf => items.length ≤ 1000 ∧
   compLoop guard (fun ρ' σ' Q' => wIfs Γ ifs ρ' σ' Q') (fun (acc:List (Key × V)) ρ' σ' Q' => wX Γ k ρ' σ' fun kv σ'' => wX Γ w ρ' σ'' fun v σ₃ =>
     ∃ key, kv.key? = some key ∧ (∀ e ∈ acc, e.1.isTp = key.isTp) ∧ Q' (aset acc key v) σ₃) x ρ items [] σ₁
    fun es σ₂ => newObj (unf σ₂) (.dict es) Q
 | .range _, _, _, _ => False
noncomputable def wT (Γ:GE):X → Loc → Store → (Bool → Store → Prop) → Prop
 | .not_ a, ρ, σ, Q => wT Γ a ρ σ fun b σ₁ => Q (!b) σ₁
 | .boolop isOr xs, ρ, σ, Q => wTs Γ isOr xs ρ σ Q
 | .ite c a b, ρ, σ, Q => wT Γ c ρ σ fun t σ₁ => if t then wT Γ a ρ σ₁ Q else wT Γ b ρ σ₁ Q
 | .cmp op a b, ρ, σ, Q => wX Γ a ρ σ fun u σ₁ => wX Γ b ρ σ₁ fun v σ₂ => cmpOp op u v σ₂ fun r => Q r σ₂
 | .chain a o1 b o2 c, ρ, σ, Q => wX Γ a ρ σ fun u σ₁ => wX Γ b ρ σ₁ fun v σ₂ => cmpOp o1 u v σ₂ fun r =>
   if r then wX Γ c ρ σ₂ fun w σ₃ => cmpOp o2 v w σ₃ fun r' => Q r' σ₃ else Q false σ₂
 | .lit v, _, σ, Q => truthW v fun b => Q b σ
 | .var x, ρ, σ, Q => ∃ v, ρ.get x = some v ∧ truthW v fun b => Q b σ
 | .call f args, ρ, σ, Q => ∃ spec, Γ.fn f = some spec ∧ wXs Γ args ρ σ fun vs σ₁ => spec vs σ₁ fun v σ₂ => truthW v fun b => Q b σ₂
 | .sub o i, ρ, σ, Q => wX Γ o ρ σ fun u σ₁ => wX Γ i ρ σ₁ fun v σ₂ => getItemW u v σ₂ fun v σ₃ => truthW v fun b => Q b σ₃
 | _, _, _, _ => False
noncomputable def wTs (Γ:GE) (isOr:Bool):List X → Loc → Store → (Bool → Store → Prop) → Prop
 | [], _, σ, Q => Q (!isOr) σ
 | x :: r, ρ, σ, Q => wT Γ x ρ σ fun b σ₁ => if b = isOr then Q isOr σ₁ else wTs Γ isOr r ρ σ₁ Q
noncomputable def wBool (Γ:GE) (isOr:Bool):List X → Loc → Store → (V → Store → Prop) → Prop
 | [], _, _, _ => False
 | x :: r, ρ, σ, Q => wX Γ x ρ σ fun v σ₁ => match r with
  | [] => Q v σ₁
  | _ :: _ => truthW v fun b => if b = isOr then Q v σ₁ else wBool Γ isOr r ρ σ₁ Q
noncomputable def wXs (Γ:GE):List X → Loc → Store → (List V → Store → Prop) → Prop
 | [], _, σ, Q => Q [] σ
 | x :: r, ρ, σ, Q => wX Γ x ρ σ fun v σ₁ => wXs Γ r ρ σ₁ fun vs σ₂ => Q (v :: vs) σ₂
noncomputable def wPairs (Γ:GE):List X → List Str → Loc → Store → (List (Key × V) → Store → Prop) → Prop
 | [], [], _, σ, Q => Q [] σ
 | x :: xs, s :: ss, ρ, σ, Q => wX Γ x ρ σ fun v σ₁ => wPairs Γ xs ss ρ σ₁ fun es σ₂ => Q ((.one (.str s), v) :: es) σ₂
 | _, _, _, _, _ => False
noncomputable def wOpt (Γ:GE):Option X → Loc → Store → (V → Store → Prop) → Prop
 | Option.none, _, σ, Q => Q .none σ
 | some x, ρ, σ, Q => wX Γ x ρ σ Q
noncomputable def wIfs (Γ:GE):List X → Loc → Store → (Bool → Store → Prop) → Prop
 | [], _, σ, Q => Q true σ
 | [x], ρ, σ, Q => wT Γ x ρ σ Q
 | _, _, _, _ => False
noncomputable def wIter (Γ:GE):X → Loc → Store → ItQ → Prop
 | .range args, ρ, σ, Q => wXs Γ args ρ σ fun vs σ₁ => rangeW vs fun items => Q items (fun _ => True) σ₁ id
 | .var x, ρ, σ, Q => ∃ v, ρ.get x = some v ∧ iterVal v σ Q
 | .attr o x, ρ, σ, Q => wX Γ o ρ σ fun u σ₁ => getAttrW u x σ₁ fun v σ₂ => iterVal v σ₂ Q
 | .sub o i, ρ, σ, Q => wX Γ o ρ σ fun u σ₁ => wX Γ i ρ σ₁ fun v σ₂ => getItemW u v σ₂ fun v σ₃ => iterVal v σ₃ Q
 | .slice o lo hi, ρ, σ, Q => wX Γ o ρ σ fun u σ₁ => wOpt Γ lo ρ σ₁ fun l σ₂ => wOpt Γ hi ρ σ₂ fun h σ₃ => sliceW u l h σ₃ fun v σ₄ => iterVal v σ₄ Q
 | .call f args, ρ, σ, Q => ∃ spec, Γ.fn f = some spec ∧ wXs Γ args ρ σ fun vs σ₁ => spec vs σ₁ fun v σ₂ => iterVal v σ₂ Q
 | _, _, _, _ => False
end
inductive Fl where
 | next | cont | ret (v:V)
set_option genSizeOf false in
set_option genInjectivity false in
inductive S where
 | ret (x:X)
 | expr (x:X)
 | assign (x:Str) (e:X)
 | setSub (o i:X) (e:X)
 | setAttr (o:X) (x:Str) (e:X)
 | unpack (xs:List Str) (e:X)
 | augAttr (o:X) (x:Str) (op:Operator) (e:X)
 | ite (c:X) (a b:List S)
 | for_ (x:Str) (it:X) (body:List S)
 | cont
noncomputable def Loc.setAll (ρ:Loc):List Str → List V → Option Loc
 | [], [] => some ρ
 | x :: xs, v :: vs => Loc.setAll (ρ.set x v) xs vs
 | _, _ => Option.none
noncomputable def seqVal (v:V) (σ:Store) (Q:List V → Prop):Prop :=
 match v with
 | .tup xs => Q xs
 | .ref a => ∃ xs, σ a = some (.list xs) ∧ Q xs
 | _ => False
noncomputable def forLoop (guard:Store → Prop) (body:Loc → Store → (Fl → Loc → Store → Prop) → Prop) (x:Str):List V → Loc → Store → (Fl → Loc → Store → Prop) → Prop
 | [], ρ, σ, Q => guard σ ∧ Q .next ρ σ
 | v :: vs, ρ, σ, Q => guard σ ∧ body (ρ.set x v) σ fun f ρ₁ σ₁ => match f with
   | .ret r => guard σ₁ ∧ Q (.ret r) ρ₁ σ₁
   | _ => forLoop guard body x vs ρ₁ σ₁ Q
mutual
noncomputable def wS (Γ:GE):S → Loc → Store → (Fl → Loc → Store → Prop) → Prop
 | .ret x, ρ, σ, Q => wX Γ x ρ σ fun v σ₁ => Q (.ret v) ρ σ₁
 | .expr x, ρ, σ, Q => wX Γ x ρ σ fun v σ₁ => v = .none ∧ Q .next ρ σ₁
 | .assign x e, ρ, σ, Q => wX Γ e ρ σ fun v σ₁ => Q .next (ρ.set x v) σ₁
 | .setSub o i e, ρ, σ, Q => wX Γ e ρ σ fun v σ₁ => wX Γ o ρ σ₁ fun u σ₂ => wX Γ i ρ σ₂ fun j σ₃ => setItemW u j v σ₃ fun σ₄ => Q .next ρ σ₄
 | .setAttr o x e, ρ, σ, Q => wX Γ e ρ σ fun v σ₁ => wX Γ o ρ σ₁ fun u σ₂ => setAttrW u x v σ₂ fun σ₃ => Q .next ρ σ₃
 | .unpack xs e, ρ, σ, Q => wX Γ e ρ σ fun v σ₁ => seqVal v σ₁ fun vs => ∃ ρ', Loc.setAll ρ xs vs = some ρ' ∧ Q .next ρ' σ₁
 | .augAttr o x op e, ρ, σ, Q => wX Γ o ρ σ fun u σ₁ => getAttrW u x σ₁ fun old σ₂ => wX Γ e ρ σ₂ fun v σ₃ => ∃ i j, old = .int i ∧ v = .int j ∧ op = .Add ∧
   setAttrW u x (.int (i + j)) σ₃ fun σ₄ => Q .next ρ σ₄
 | .ite c a b, ρ, σ, Q => wT Γ c ρ σ fun t σ₁ => if t then wSs Γ a ρ σ₁ Q else wSs Γ b ρ σ₁ Q
 | .for_ x it body, ρ, σ, Q => wIter Γ it ρ σ fun items guard σ₁ unf => forLoop guard (fun ρ' σ' Q' => wSs Γ body ρ' σ' Q') x items ρ σ₁ fun f ρ' σ' => Q f ρ' (unf σ')
 | .cont, ρ, σ, Q => Q .cont ρ σ
noncomputable def wSs (Γ:GE):List S → Loc → Store → (Fl → Loc → Store → Prop) → Prop
 | [], ρ, σ, Q => Q .next ρ σ
 | s :: r, ρ, σ, Q => wS Γ s ρ σ fun f ρ₁ σ₁ => match f with
  | .next => wSs Γ r ρ₁ σ₁ Q
  | f => Q f ρ₁ σ₁
end
noncomputable def wBody (Γ:GE) (params:List Str) (body:List S):Spec:=fun vs σ Q => ∃ ρ, Loc.setAll [] params vs = some ρ ∧ wSs Γ body ρ σ fun f _ σ' => match f with
 | .ret v => Q v σ'
 | .next => Q .none σ'
 | .cont => False
end Mini
end
section
namespace Mini
open PySem
noncomputable def isVarK:Option NameKind → Bool
 | some .local => true
 | some .cell => true
 | some .free => true
 | _ => false
noncomputable def isGlobK:Option NameKind → Bool
 | some .globalImplicit => true
 | _ => false
noncomputable def bfnOf (f:Str):Option BFn :=
 if f = ("len":Str) then some .len else if f = ("abs":Str) then some .abs else if f = ("list":Str) then some .list
 else if f = ("sum":Str) then some .sum else none
noncomputable def attrNames:List Str:=["count", "regs", "consts", "numbers", "table", "words"]
noncomputable def keyLits:List (Option PySem.Expr) → Option (List Str)
 | [] => some []
 | some (.Constant (.str s) _ _) :: r => (keyLits r).map (s :: ·)
 | _ => none
noncomputable def plainBase:PySem.Expr → Bool
 | .Call _ args _ _ => !args.isEmpty
 | _ => true
noncomputable def notSlice (e:PySem.Expr):Bool:=!Nat.beq e.ctorIdx 26
noncomputable def notStar (e:PySem.Expr):Bool:=!Nat.beq e.ctorIdx 22
noncomputable def notTup (e:PySem.Expr):Bool:=!Nat.beq e.ctorIdx 25
noncomputable def notComp (e:PySem.Expr):Bool:=!Nat.beq e.ctorIdx 8 && !Nat.beq e.ctorIdx 9 && !Nat.beq e.ctorIdx 10
noncomputable abbrev Kinds:=Str → Option NameKind
noncomputable def scKinds (s:Scope):Kinds:=fun x => s.names.lookup x
noncomputable def compOk (x:Str) (sc:Scope) (k:Kinds):Bool :=
 sc.kind == .function && sc.names.lookup x == some .local &&
 x != (".0":Str) &&
 sc.names.all (fun p => (p.2 == .local && (p.1 == x || p.1 == (".0":Str)) && sc.names.lookup p.1 == some .local) || (p.2 == .free && (k p.1 == some .cell || k p.1 == some .free) && sc.names.lookup p.1 == some .free) || p.2 == .globalImplicit)
mutual
noncomputable def er:PySem.Expr → Kinds → Option X
 | .Constant .none _ _, _ => some (.lit .none)
 | .Constant (.bool b) _ _, _ => some (.lit (.bool b))
 | .Constant (.int i) _ _, _ => some (.lit (.int i))
 | .Constant (.str s) _ _, _ => some (.lit (.str s))
 | .Name id _, k => if id == ("__debug__":Str) || id == ("__classdict__":Str) || id == (".0":Str) then none else if isVarK (k id) then some (.var id) else if isGlobK (k id) then some (.glob id) else none
 | .BinOp l op r _, k => do return .bin op (← er l k) (← er r k)
 | .UnaryOp .USub x _, k => do return .neg (← er x k)
 | .UnaryOp .Not x _, k => do return .not_ (← er x k)
 | .BoolOp op xs _, k => do return .boolop (op == .Or) (← erL xs k)
 | .IfExp c a b _, k => do return .ite (← er c k) (← er a k) (← er b k)
 | .Compare l [op] [r] _, k => do return .cmp op (← er l k) (← er r k)
 | .Compare l [o1, o2] [m, r] _, k => do return .chain (← er l k) o1 (← er m k) o2 (← er r k)
 | .Call f args [] pos, k => match f with
  | .Name id _ => if isGlobK (k id) && id != ("__debug__":Str) && args.all notStar && Nat.ble args.length 28 then do
        let xs ← erL args k
        if id == ("range":Str) then return .range xs
        match bfnOf id with
        | some b => return .bcall b xs
        | none => return .call id xs
    else none
  | .Attribute o name apos => if plainBase o && args.all notStar && Nat.ble args.length 28 && apos.endLine == pos.line then do return .meth (← er o k) name (← erL args k) else none
  | _ => none
 | .Attribute o name _, k => if plainBase o && attrNames.contains name then do return .attr (← er o k) name else none
 | .Subscript o (.Slice lo hi none _) _, k => do return .slice (← er o k) (← erO lo k) (← erO hi k)
 | .Subscript o i _, k => if notSlice i then do return .sub (← er o k) (← er i k) else none
 | .Tuple es _ _, k => if es.all notStar && Nat.ble es.length 100 then do return .tup (← erL es k) else none
 | .List es _, k => if es.all notStar && Nat.ble es.length 100 then do return .list (← erL es k) else none
 | .Dict ks vs _, k => if Nat.ble ks.length 15 && ks.length == vs.length then do return .dict (← keyLits ks) (← erL vs k) else none
 | .ListComp e gens sc _, k => do
  let (x, it, ifs) ← erC gens k (scKinds sc)
  if compOk x sc k then return .lcomp (← er e (scKinds sc)) x it ifs else none
 | .DictComp a b gens sc _, k => do
  let (x, it, ifs) ← erC gens k (scKinds sc)
  if compOk x sc k then return .dcomp (← er a (scKinds sc)) (← er b (scKinds sc)) x it ifs else none
 | _, _ => none
noncomputable def erL:List PySem.Expr → Kinds → Option (List X)
 | [], _ => some []
 | e :: r, k => do return (← er e k) :: (← erL r k)
noncomputable def erO:Option PySem.Expr → Kinds → Option (Option X)
 | none, _ => some none
 | some e, k => do return some (← er e k)
noncomputable def erC:List Comprehension → Kinds → Kinds → Option (Str × X × List X)
 | [⟨.Name x _, it, ifs, as⟩], k, k' => if as == 0 && Nat.ble ifs.length 1 then do return (x, ← er it k, ← erL ifs k') else none
 | _, _, _ => none
end
noncomputable def namesOf:List PySem.Expr → Option (List Str)
 | [] => some []
 | .Name x _ :: r => (namesOf r).map (x :: ·)
 | _ => none
mutual
noncomputable def erS:PySem.Stmt → Kinds → Option S
 | .Return (some e) _, k => do return .ret (← er e k)
 | .Expr e _, k => if notComp e then do return .expr (← er e k) else none
 | .Assign [t] v _, k => match t with
  | .Name x _ => if isVarK (k x) && k x != some .free then do return .assign x (← er v k) else none
  | .Subscript o i _ => if notSlice i then do return .setSub (← er o k) (← er i k) (← er v k) else none
  | .Attribute o a _ => if attrNames.contains a then do return .setAttr (← er o k) a (← er v k) else none
  | .Tuple ts _ _ => do
   let xs ← namesOf ts
   if xs.all (fun x => isVarK (k x) && k x != some .free) && notComp v && notTup v then return .unpack xs (← er v k) else none
  | _ => none
 | .AugAssign (.Attribute o a _) op v _, k => if attrNames.contains a then do return .augAttr (← er o k) a op (← er v k) else none
 | .If c a b _, k => do return .ite (← er c k) (← erSs a k) (← erSs b k)
 | .For (.Name x _) it body [] _, k => if isVarK (k x) && k x != some .free then do return .for_ x (← er it k) (← erSs body k) else none
 | .Continue _, _ => some .cont
 | _, _ => none
noncomputable def erSs:List PySem.Stmt → Kinds → Option (List S)
 | [], _ => some []
 | s :: r, k => do return (← erS s k) :: (← erSs r k)
end
section
variable {α β γ δ:Type} {x:X} {y:S} {k:Kinds} {p:Pos}
theorem bd1 {o:Option α} {f:α → β} {z:β} (h:(o.bind fun a => some (f a)) = some z):∃ a, o = some a ∧ z = f a:=by
 cases o with
 | none => exact nomatch h
 | some a => exact ⟨a, rfl, (Option.some.inj h).symm⟩
theorem bdk {o:Option α} {f:α → Option β} {z:β} (h:o.bind f = some z):∃ a, o = some a ∧ f a = some z:=by
 cases o with
 | none => exact nomatch h
 | some a => exact ⟨a, rfl, h⟩
theorem bd2 {o:Option α} {o':Option β} {f:α → β → γ} {z:γ} (h:(o.bind fun a => o'.bind fun b => some (f a b)) = some z):∃ a, o = some a ∧ ∃ b, o' = some b ∧ z = f a b :=
 let ⟨a, e, h⟩:=bdk h; ⟨a, e, bd1 h⟩
theorem bd3 {o:Option α} {o':Option β} {q:Option γ} {f:α → β → γ → δ} {z:δ} (h:(o.bind fun a => o'.bind fun b => q.bind fun c => some (f a b c)) = some z):∃ a, o = some a ∧ ∃ b, o' = some b ∧ ∃ c, q = some c ∧ z = f a b c :=
 let ⟨a, e, h⟩:=bdk h; ⟨a, e, bd2 h⟩
theorem of_if {b:Bool} {o:Option α} {z:α} (h:(if b = true then o else none) = some z):b = true ∧ o = some z:=by
 cases b
 ·exact nomatch h
 ·exact ⟨rfl, h⟩
variable {a b c:PySem.Expr}
theorem er_bin {op:Operator} (h:er (.BinOp a op b p) k = some x):∃ xa, er a k = some xa ∧ ∃ xb, er b k = some xb ∧ x = .bin op xa xb:=bd2 h
theorem er_neg (h:er (.UnaryOp .USub a p) k = some x):∃ xa, er a k = some xa ∧ x = .neg xa:=bd1 h
theorem er_not (h:er (.UnaryOp .Not a p) k = some x):∃ xa, er a k = some xa ∧ x = .not_ xa:=bd1 h
theorem er_boolop {op:BoolOp} {es:List PySem.Expr} (h:er (.BoolOp op es p) k = some x):∃ xs, erL es k = some xs ∧ x = .boolop (op == .Or) xs:=bd1 h
theorem er_ite (h:er (.IfExp a b c p) k = some x):∃ xa, er a k = some xa ∧ ∃ xb, er b k = some xb ∧ ∃ xc, er c k = some xc ∧ x = .ite xa xb xc:=bd3 h
theorem er_cmp {op:CmpOp} (h:er (.Compare a [op] [b] p) k = some x):∃ xa, er a k = some xa ∧ ∃ xb, er b k = some xb ∧ x = .cmp op xa xb:=bd2 h
theorem er_chain {o1 o2:CmpOp} (h:er (.Compare a [o1, o2] [b, c] p) k = some x):∃ xa, er a k = some xa ∧ ∃ xb, er b k = some xb ∧ ∃ xc, er c k = some xc ∧ x = .chain xa o1 xb o2 xc:=bd3 h
theorem er_attr {name:Str} (h:er (.Attribute a name p) k = some x):(plainBase a && attrNames.contains name) = true ∧ ∃ xa, er a k = some xa ∧ x = .attr xa name:=(of_if h).imp_right bd1
theorem er_slice {lo hi:Option PySem.Expr} {p':Pos} (h:er (.Subscript a (.Slice lo hi none p') p) k = some x):∃ xa, er a k = some xa ∧ ∃ xl, erO lo k = some xl ∧ ∃ xh, erO hi k = some xh ∧ x = .slice xa xl xh:=bd3 h
theorem er_sub (hn:notSlice b = true) (h:er (.Subscript a b p) k = some x):∃ xa, er a k = some xa ∧ ∃ xb, er b k = some xb ∧ x = .sub xa xb:=by
 cases b <;> first | exact bd2 (of_if h).2 | exact absurd hn Bool.false_ne_true
theorem er_tup {es:List PySem.Expr} {z} (h:er (.Tuple es z p) k = some x):(es.all notStar && Nat.ble es.length 100) = true ∧ ∃ xs, erL es k = some xs ∧ x = .tup xs:=(of_if h).imp_right bd1
theorem er_list {es:List PySem.Expr} (h:er (.List es p) k = some x):(es.all notStar && Nat.ble es.length 100) = true ∧ ∃ xs, erL es k = some xs ∧ x = .list xs:=(of_if h).imp_right bd1
theorem er_dict {ks:List (Option PySem.Expr)} {vs:List PySem.Expr} (h:er (.Dict ks vs p) k = some x):(Nat.ble ks.length 15 && ks.length == vs.length) = true ∧ ∃ ss, keyLits ks = some ss ∧ ∃ xs, erL vs k = some xs ∧ x = .dict ss xs:=(of_if h).imp_right bd2
theorem er_C {it:PySem.Expr} {ifs:List PySem.Expr} {as:Int} {x':Str} {p':Pos} {k':Kinds} {z} (h:erC [⟨.Name x' p', it, ifs, as⟩] k k' = some z):(as == 0 && Nat.ble ifs.length 1) = true ∧ ∃ xi, er it k = some xi ∧ ∃ xs, erL ifs k' = some xs ∧ z = (x', xi, xs):=(of_if h).imp_right bd2
theorem er_lcomp {it:PySem.Expr} {ifs:List PySem.Expr} {as:Int} {x':Str} {p':Pos} {sc:Scope} (h:er (.ListComp a [⟨.Name x' p', it, ifs, as⟩] sc p) k = some x) :
  (as == 0 && Nat.ble ifs.length 1) = true ∧ compOk x' sc k = true ∧ ∃ xi, er it k = some xi ∧ ∃ xs, erL ifs (scKinds sc) = some xs ∧ ∃ xe, er a (scKinds sc) = some xe ∧ x = .lcomp xe x' xi xs:=by
 obtain ⟨z, h1, h2⟩:=bdk h
 obtain ⟨q, xi, e1, xs, e2, rfl⟩:=er_C h1
 obtain ⟨q2, xe, e3, e4⟩:=(of_if h2).imp_right bd1
 exact ⟨q, q2, xi, e1, xs, e2, xe, e3, e4⟩
theorem er_dcomp {it:PySem.Expr} {ifs:List PySem.Expr} {as:Int} {x':Str} {p':Pos} {sc:Scope} (h:er (.DictComp a b [⟨.Name x' p', it, ifs, as⟩] sc p) k = some x) :
  (as == 0 && Nat.ble ifs.length 1) = true ∧ compOk x' sc k = true ∧ ∃ xi, er it k = some xi ∧ ∃ xs, erL ifs (scKinds sc) = some xs ∧ ∃ xa, er a (scKinds sc) = some xa ∧ ∃ xb, er b (scKinds sc) = some xb ∧ x = .dcomp xa xb x' xi xs:=by
 obtain ⟨z, h1, h2⟩:=bdk h
 obtain ⟨q, xi, e1, xs, e2, rfl⟩:=er_C h1
 obtain ⟨q2, xa, e3, xb, e4, e5⟩:=(of_if h2).imp_right bd2
 exact ⟨q, q2, xi, e1, xs, e2, xa, e3, xb, e4, e5⟩
theorem er_cons {es:List PySem.Expr} {z} (h:erL (a :: es) k = some z):∃ xa, er a k = some xa ∧ ∃ xs, erL es k = some xs ∧ z = xa :: xs:=bd2 h
theorem er_nil {z} (h:erL [] k = some z):z = []:=(Option.some.inj h).symm
theorem er_some {z} (h:erO (some a) k = some z):∃ xa, er a k = some xa ∧ z = some xa:=bd1 h
theorem er_no {x:Option X} (h:erO none k = some x):x = none:=(Option.some.inj h).symm
theorem er_ret (h:erS (.Return (some a) p) k = some y):∃ xa, er a k = some xa ∧ y = .ret xa:=bd1 h
theorem er_expr (h:erS (.Expr a p) k = some y):notComp a = true ∧ ∃ xa, er a k = some xa ∧ y = .expr xa:=(of_if h).imp_right bd1
theorem er_assign {v:Str} {p':Pos} (h:erS (.Assign [.Name v p'] a p) k = some y):(isVarK (k v) && k v != some .free) = true ∧ ∃ xa, er a k = some xa ∧ y = .assign v xa:=(of_if h).imp_right bd1
theorem er_setSub {p':Pos} (h:erS (.Assign [.Subscript a b p'] c p) k = some y):notSlice b = true ∧ ∃ xa, er a k = some xa ∧ ∃ xb, er b k = some xb ∧ ∃ xc, er c k = some xc ∧ y = .setSub xa xb xc:=(of_if h).imp_right bd3
theorem er_setAttr {v:Str} {p':Pos} (h:erS (.Assign [.Attribute a v p'] b p) k = some y):attrNames.contains v = true ∧ ∃ xa, er a k = some xa ∧ ∃ xb, er b k = some xb ∧ y = .setAttr xa v xb:=(of_if h).imp_right bd2
theorem er_unpack {ts:List PySem.Expr} {z} {p':Pos} (h:erS (.Assign [.Tuple ts z p'] a p) k = some y):∃ xs, namesOf ts = some xs ∧ (xs.all (fun x => isVarK (k x) && k x != some .free) && notComp a && notTup a) = true ∧ ∃ xa, er a k = some xa ∧ y = .unpack xs xa:=by
 obtain ⟨xs, h1, h2⟩:=bdk h
 exact ⟨xs, h1, (of_if h2).imp_right bd1⟩
theorem er_aug {v:Str} {op:Operator} {p':Pos} (h:erS (.AugAssign (.Attribute a v p') op b p) k = some y):attrNames.contains v = true ∧ ∃ xa, er a k = some xa ∧ ∃ xb, er b k = some xb ∧ y = .augAttr xa v op xb:=(of_if h).imp_right bd2
theorem er_if {u w:List PySem.Stmt} (h:erS (.If a u w p) k = some y):∃ xa, er a k = some xa ∧ ∃ xu, erSs u k = some xu ∧ ∃ xw, erSs w k = some xw ∧ y = .ite xa xu xw:=bd3 h
theorem er_for {v:Str} {p':Pos} {u:List PySem.Stmt} (h:erS (.For (.Name v p') a u [] p) k = some y):(isVarK (k v) && k v != some .free) = true ∧ ∃ xa, er a k = some xa ∧ ∃ xu, erSs u k = some xu ∧ y = .for_ v xa xu:=(of_if h).imp_right bd2
theorem er_scons {s:PySem.Stmt} {r:List PySem.Stmt} {z} (h:erSs (s :: r) k = some z):∃ xs, erS s k = some xs ∧ ∃ xr, erSs r k = some xr ∧ z = xs :: xr:=bd2 h
theorem er_snil {z} (h:erSs [] k = some z):z = []:=(Option.some.inj h).symm
end
end Mini
end
section
namespace Mini
open PySem PySem.W PyProof.Rows
mutual
noncomputable def VR (h:Heap):V → Value → Prop
 | .none, v => v = .none
 | .bool b, v => v = .bool b
 | .int i, v => ∃ t, v = .int i t
 | .str s, v => ∃ t, v = .str s t
 | .ref a, v => v = .ref a
 | .tup xs, v => ∃ a vs n, v = .ref a ∧ IsT h a (List.toArray vs) n ∧ VRs h xs vs
noncomputable def VRs (h:Heap):List V → List Value → Prop
 | [], vs => vs = []
 | x :: xs, vs => ∃ v r, vs = v :: r ∧ VR h x v ∧ VRs h xs r
end
noncomputable def TupKeep (h h':Heap):Prop:=∀ a o, h.get? a = some o → o.cls = .type "tuple" → (∃ its n, o.data = .seq its n) → h'.get? a = some o
theorem TupKeep.all {h h':Heap} (k:∀ b o, h.get? b = some o → h'.get? b = some o):TupKeep h h':=fun a o e _ _ => k a o e
mutual
theorem VR.keep {h h':Heap} (k:TupKeep h h'):∀ {x:V} {v:Value}, VR h x v → VR h' x v
 | .none, _, e => e
 | .bool _, _, e => e
 | .int _, _, e => e
 | .str _, _, e => e
 | .ref _, _, e => e
 | .tup xs, v, e => by
  obtain ⟨a, vs, n, rfl, ht, hx⟩:=e
  exact ⟨a, vs, n, rfl, k _ _ ht rfl ⟨_, _, rfl⟩, VRs.keep k hx⟩
theorem VRs.keep {h h':Heap} (k:TupKeep h h'):∀ {xs:List V} {vs:List Value}, VRs h xs vs → VRs h' xs vs
 | [], _, e => e
 | x :: xs, vs, e => by
  obtain ⟨v, r, rfl, h1, h2⟩:=e
  exact ⟨v, r, rfl, VR.keep k h1, VRs.keep k h2⟩
end
theorem VRs.length {h:Heap}:∀ {xs:List V} {vs:List Value}, VRs h xs vs → xs.length = vs.length
 | [], _, e => by cases (show _ = [] from e); rfl
 | _ :: _, _, e => let ⟨_, _, q, _, h2⟩:=e; (congrArg Nat.succ (VRs.length h2)).trans (congrArg List.length q).symm
theorem VRs.get {h:Heap}:∀ {xs:List V} {vs:List Value} {j:Nat} {x:V}, VRs h xs vs → xs[j]? = some x → ∃ v, vs[j]? = some v ∧ VR h x v
 | [], _, _, _, _, e => nomatch e
 | y :: ys, _, j, x, hr, e => by
  obtain ⟨v, r, rfl, h1, h2⟩:=hr
  cases j with
  | zero => cases Option.some.inj (show some y = some x from e); exact ⟨v, rfl, h1⟩
  | succ j => obtain ⟨u, hu, hx⟩:=VRs.get h2 (show ys[j]? = some x from e); exact ⟨u, hu, hx⟩
theorem VRs.append {h:Heap}:∀ {xs ys:List V} {vs us:List Value}, VRs h xs vs → VRs h ys us → VRs h (xs ++ ys) (vs ++ us)
 | [], _, _, _, e, q => by cases (show _ = [] from e); exact q
 | _ :: _, _, _, _, e, q => by
  obtain ⟨v, r, rfl, h1, h2⟩:=e
  exact ⟨v, _, rfl, h1, h2.append q⟩
theorem VRs.one {h:Heap} {x:V} {v:Value} (e:VR h x v):VRs h [x] [v]:=⟨v, [], rfl, e, rfl⟩
theorem VRs.split {h:Heap}:∀ {xs ys:List V} {vs:List Value}, VRs h (xs ++ ys) vs → ∃ us ws, vs = us ++ ws ∧ VRs h xs us ∧ VRs h ys ws
 | [], _, vs, e => ⟨[], vs, rfl, rfl, e⟩
 | x :: xs, ys, vs, e => by
  obtain ⟨v, r, rfl, h1, h2⟩:=e
  obtain ⟨us, ws, rfl, h3, h4⟩:=VRs.split h2
  exact ⟨v :: us, ws, rfl, ⟨v, us, rfl, h1, h3⟩, h4⟩
theorem VRs.rev {h:Heap}:∀ {xs:List V} {vs:List Value}, VRs h xs vs → VRs h xs.reverse vs.reverse
 | [], _, e => by cases (show _ = [] from e); rfl
 | x :: xs, _, e => by
  obtain ⟨v, r, rfl, h1, h2⟩:=e
  rw [List.reverse_cons, List.reverse_cons]
  exact h2.rev.append (.one h1)
theorem VRs.drop {h:Heap}:∀ {xs:List V} {vs:List Value} (n:Nat), VRs h xs vs → VRs h (xs.drop n) (vs.drop n)
 | xs, vs, 0, e => e
 | [], _, n + 1, e => by cases (show _ = [] from e); rfl
 | x :: xs, _, n + 1, e => by
  obtain ⟨v, r, rfl, h1, h2⟩:=e
  exact h2.drop n
theorem VRs.take {h:Heap}:∀ {xs:List V} {vs:List Value} (n:Nat), VRs h xs vs → VRs h (xs.take n) (vs.take n)
 | xs, vs, 0, e => by cases xs <;> cases vs <;> rfl
 | [], _, n + 1, e => by cases (show _ = [] from e); rfl
 | x :: xs, _, n + 1, e => by
  obtain ⟨v, r, rfl, h1, h2⟩:=e
  exact ⟨v, _, rfl, h1, h2.take n⟩
theorem VRs.replicate {h:Heap} {x:V} {v:Value} (e:VR h x v):∀ n, VRs h (List.replicate n x) (List.replicate n v)
 | 0 => rfl
 | n + 1 => ⟨v, _, rfl, e, VRs.replicate e n⟩
theorem VRs.set {h:Heap} {x:V} {v:Value} (e:VR h x v):∀ {xs:List V} {vs:List Value} (j:Nat), VRs h xs vs → VRs h (xs.set j x) (vs.set j v)
 | [], _, j, q => by cases (show _ = [] from q); rfl
 | y :: ys, _, 0, q => by
  obtain ⟨u, r, rfl, _, h2⟩:=q
  exact ⟨v, r, rfl, e, h2⟩
 | y :: ys, _, j + 1, q => by
  obtain ⟨u, r, rfl, h1, h2⟩:=q
  exact ⟨u, _, rfl, h1, VRs.set e j h2⟩
inductive F2 {α β:Type} (R:α → β → Prop):List α → List β → Prop
 | nil:F2 R [] []
 | cons {a b as bs}:R a b → F2 R as bs → F2 R (a :: as) (b :: bs)
theorem F2.imp {α β:Type} {R S:α → β → Prop} (k:∀ a b, R a b → S a b) {as bs} (h:F2 R as bs):F2 S as bs:=by
 induction h with
 | nil => exact .nil
 | cons h _ ih => exact .cons (k _ _ h) ih
theorem F2.length {α β:Type} {R:α → β → Prop} {as bs} (h:F2 R as bs):as.length = bs.length:=by
 induction h with
 | nil => rfl
 | cons _ _ ih => exact congrArg Nat.succ ih
theorem F2.snoc {α β:Type} {R:α → β → Prop} {a:α} {b:β} (q:R a b) {as bs} (h:F2 R as bs):F2 R (as ++ [a]) (bs ++ [b]):=by
 induction h with
 | nil => exact .cons q .nil
 | cons h _ ih => exact .cons h ih
section
variable {prog:Program} {w:World} {A:Around} {E:Value → Shared → Prop} {s:Shared}
theorem eqBool_of_eq {a b:Value} {r:Bool} {Q:Bool → Shared → Prop} (hne:(a == b) = false) (hf:∀ x t, a ≠ .float x t)
  (h:wpAny (model prog w) A (compareOp .Eq a b) (fun v s' => v = .bool r ∧ Q r s') E s):wpAny (model prog w) A (eqBool a b) Q E s:=by
 unfold eqBool
 refine wpAny_holding ?_
 rw [hne]
 have fin:wpAny (model prog w) A (richCompare .Eq a b >>= truthOfDropped) Q E s:=by
  refine wpAny_bind (wpAny_mono (show wpAny (model prog w) A (richCompare .Eq a b) (fun v s' => v = .bool r ∧ Q r s') E s from h) (fun v s' q => ?_) fun _ _ e => e)
  obtain ⟨rfl, q⟩:=q
  exact wpAny_truthy_bool q
 cases a <;> first | exact fin | exact absurd rfl (hf _ _)
theorem eqBool_int_str {i:Int} {t:Tok} {x:Str} {u:Tok} {Q:Bool → Shared → Prop} (h:Q false s):wpAny (model prog w) A (eqBool (.int i t) (.str x u)) Q E s :=
 eqBool_of_eq (r:=false) rfl (fun _ _ e => nomatch e) (EqMixed.eq_int_str ⟨rfl, h⟩)
theorem eqBool_str_int {i:Int} {t:Tok} {x:Str} {u:Tok} {Q:Bool → Shared → Prop} (h:Q false s):wpAny (model prog w) A (eqBool (.str x u) (.int i t)) Q E s :=
 eqBool_of_eq (r:=false) rfl (fun _ _ e => nomatch e) (EqMixed.eq_str_int ⟨rfl, h⟩)
end
noncomputable def atomHash (w:World):Atom → Int
 | .int i => hashInt i
 | .str s => hashStr w s
noncomputable def atomIs:Atom → Value → Bool
 | .int i, v => Value.isInt i v
 | .str s, v => Value.isStrOf s v
theorem atomIs_shape:∀ {k:Atom} {v:Value}, atomIs k v = true → (∃ i t, k = .int i ∧ v = .int i t) ∨ ∃ x t, k = .str x ∧ v = .str x t
 | .int i, v, h => let ⟨t, e⟩:=Value.isInt_shape h; .inl ⟨i, t, rfl, e⟩
 | .str x, v, h => let ⟨t, e⟩:=Value.isStrOf_shape h; .inr ⟨x, t, rfl, e⟩
theorem beq_of {α β:Type} [DecidableEq α] [DecidableEq β] {x y:α} {f:α → β} (h:f x = f y → x = y):(x == y) = decide (f x = f y):=by
 by_cases q:x = y
 ·rw [q, beq_self_eq_true, decide_eq_true rfl]
 ·rw [beq_eq_false_iff_ne.mpr q, decide_eq_false fun z => q (h z)]
theorem atom_ne {i:Int} {x:Str}:decide (Atom.int i = .str x) = false:=decide_eq_false fun z => nomatch z
theorem atom_ne' {i:Int} {x:Str}:decide (Atom.str x = .int i) = false:=decide_eq_false fun z => nomatch z
theorem atom_inj {v:Value} {a b:Atom} (ha:atomIs a v = true) (hb:atomIs b v = true):a = b:=by
 rcases atomIs_shape ha with ⟨i, t, rfl, rfl⟩ | ⟨x, t, rfl, rfl⟩ <;> rcases atomIs_shape hb with ⟨j, u, rfl, e⟩ | ⟨y, u, rfl, e⟩ <;> (cases e <;> rfl)
theorem atom_eq {prog:Program} {w:World} {A:Around} {E:Value → Shared → Prop} {s:Shared} {Q:Bool → Shared → Prop} {a b:Atom} {u v:Value} (hu:atomIs a u = true) (hv:atomIs b v = true) (h:Q (decide (a = b)) s):wpAny (model prog w) A (eqBool u v) Q E s:=by
 rcases atomIs_shape hu with ⟨i, t, rfl, rfl⟩ | ⟨x, t, rfl, rfl⟩ <;> rcases atomIs_shape hv with ⟨j, u, rfl, rfl⟩ | ⟨y, u, rfl, rfl⟩
 ·rw [← beq_of (f:=Atom.int) fun z => by cases z; rfl] at h; exact wpAny_eqBool_int h
 ·rw [atom_ne] at h; exact eqBool_int_str h
 ·rw [atom_ne'] at h; exact eqBool_str_int h
 ·rw [← beq_of (f:=Atom.str) fun z => by cases z; rfl] at h; exact wpAny_eqBool_str h
noncomputable def atomKind (prog:Program) (w:World):PySem.KeyKind prog w Atom where
 is:=atomIs
 hash:=atomHash w
 inj:=fun v a b ha hb => atom_inj ha hb
 byValue:=fun k v h => by rcases atomIs_shape h with ⟨i, t, rfl, rfl⟩ | ⟨x, t, rfl, rfl⟩ <;> rfl
 pyHash:=fun hv h => by
  rcases atomIs_shape hv with ⟨i, t, rfl, rfl⟩ | ⟨x, t, rfl, rfl⟩
  ·exact wpAny_pyHash_int h
  ·exact wpAny_pyHash_str h
 eqBool:=fun hu hv h => atom_eq hu hv h
 «strs»:=fun k x t v h => by
  rcases atomIs_shape h with ⟨i, u, rfl, e⟩ | ⟨y, u, rfl, e⟩
  ·exact nomatch e
  ·cases e
   cases v <;> rfl
structure Cfg where
 prog:Program
 w:World
 base:Heap
 C:Addr
 K:Frag
 mg:Str → Option Value
 mb:Str → Option Value
noncomputable def Mut (σ:Store) (b:Addr):Bool:=match σ b with
 | none => false
 | some (.frozen _) => false
 | some (.fdict _) => false
 | _ => true
theorem Mut.none {σ:Store} {b:Addr} (e:σ b = Option.none):Mut σ b = false:=by unfold Mut; rw [e]
theorem Mut.set_ne {σ:Store} {a b:Addr} {o:MObj} (h:b ≠ a):Mut (σ.set a o) b = Mut σ b:=by unfold Mut Store.set; rw [if_neg h]
theorem set_eq {σ:Store} {a:Addr} {o:MObj}:(σ.set a o) a = some o:=by unfold Store.set; rw [if_pos rfl]
theorem set_ne {σ:Store} {a b:Addr} {o:MObj} (h:b ≠ a):(σ.set a o) b = σ b:=by unfold Store.set; rw [if_neg h]
noncomputable def MObj.mut:MObj → Bool
 | .frozen _ => false
 | .fdict _ => false
 | _ => true
theorem Mut.set_eq {σ:Store} {a:Addr} {o:MObj}:Mut (σ.set a o) a = o.mut:=by unfold Mut; rw [Mini.set_eq]; cases o <;> rfl
section
variable (c:Cfg)
noncomputable abbrev AK:=atomKind c.prog c.w
noncomputable abbrev TK:=tupleKind (atomKind c.prog c.w)
noncomputable def DictR (h:Heap) (d:Addr) (es:List (Key × V)):Prop :=
 (∃ kvs:List (Atom × Value), h.DictOf (AK c) d kvs ∧ F2 (fun (e:Key × V) kv => e.1 = .one kv.1 ∧ VR h e.2 kv.2) es kvs) ∨
 (∃ xs:List (List Atom × Addr × Value), h.DictOfH (TK c) d xs ∧ F2 (fun (e:Key × V) x => e.1 = .tp x.1 ∧ VR h e.2 x.2.2) es xs ∧ ∀ x ∈ xs, ∃ its n, IsT h x.2.1 its n)
noncomputable def ObjR (h:Heap) (a:Addr):MObj → Prop
 | .list xs => ∃ vs n, IsL h a (List.toArray vs) n ∧ VRs h xs vs
 | .frozen xs => ∃ vs, h.IsList a (List.toArray vs) ∧ VRs h xs vs
 | .dict es => DictR c h a es
 | .fdict es => DictR c h a es
 | .inst dx => h.get? a = some (instObj c.C dx)
 | .attrs es => ∃ ents n, h.get? a = some (dictOf ents n) ∧ F2 (fun (e:Str × V) (ent:DictEntry) => (∃ t, ent.key = .str e.1 t) ∧ VR h e.2 ent.val) es ents
structure Ok (σ:Store) (h:Heap):Prop where
 obj:∀ a o, σ a = some o → ObjR c h a o
 base:∀ b o, c.base.get? b = some o → h.get? b = some o
 new:∀ a, Mut σ a = true → c.base.get? a = Option.none ∧ a ≠ sysModules
 room:∃ a o, c.base.get? a = some o ∧ sysModules ≤ a
structure Go (σ:Store) (h:Heap) (σ':Store) (h':Heap):Prop where
 keep:∀ b o, h.get? b = some o → Mut σ b = false → h'.get? b = some o
 dom:∀ b, Mut σ' b = true → Mut σ b = true ∨ h.get? b = Option.none
 out:∀ b o, h.get? b = some o → σ b = Option.none → σ' b = Option.none
 stay:∀ b o, h.get? b = some o → ∃ o', h'.get? b = some o'
 ok:Ok c σ' h'
variable {c} {σ σ' σ'':Store} {h h' h'':Heap}
theorem Go.refl (k:Ok c σ h):Go c σ h σ h:=⟨fun _ _ e _ => e, fun _ e => .inl e, fun _ _ _ e => e, fun _ o e => ⟨o, e⟩, k⟩
theorem Go.mutOff (g:Go c σ h σ' h') {b:Addr} {o:Obj} (e:h.get? b = some o) (m:Mut σ b = false):Mut σ' b = false:=by
 cases q:Mut σ' b with
 | false => rfl
 | true => rcases g.dom b q with r | r
           · rw [m] at r; cases r
           · rw [e] at r; cases r
theorem Go.trans (g:Go c σ h σ' h') (g':Go c σ' h' σ'' h''):Go c σ h σ'' h'':=by
 refine ⟨fun b o e m => g'.keep b o (g.keep b o e m) (g.mutOff e m), fun b m => (g'.dom b m).elim (g.dom b) fun r => ?_, fun b o e m => g'.out b o (g.keep b o e (Mut.none m)) (g.out b o e m), fun b o e => let ⟨o', q⟩:=g.stay b o e; g'.stay b o' q, g'.ok⟩
 cases q:Mut σ b with
 | true => exact .inl rfl
 | false =>
  cases e:h.get? b with
  | none => exact .inr rfl
  | some o => rw [g.keep b o e q] at r; cases r
theorem DictR.at {a:Addr} {es:List (Key × V)} (x:DictR c h a es):∃ ob, h.get? a = some ob ∧ ob.cls = .type "dict":=by
 rcases x with ⟨_, ⟨o, _, _, e, k, _⟩, _⟩ | ⟨_, ⟨o, _, _, e, k, _⟩, _⟩
 ·exact ⟨o, e, k.1⟩
 ·exact ⟨o, e, k.1⟩
theorem ObjR.kind {a:Addr} {o:MObj} (x:ObjR c h a o):∃ ob, h.get? a = some ob ∧ ob.cls ≠ .type "tuple":=by
 have d:∀ {es}, DictR c h a es → ∃ ob, h.get? a = some ob ∧ ob.cls ≠ .type "tuple":=fun x => let ⟨o, e, k⟩:=x.at; ⟨o, e, by rw [k]; decide⟩
 cases o with
 | list xs => obtain ⟨_, _, e, _⟩:=x; exact ⟨_, e, (by decide:Value.type "list" ≠ .type "tuple")⟩
 | frozen xs => obtain ⟨_, ⟨o, e, k, _⟩, _⟩:=x; exact ⟨o, e, by rw [k]; decide⟩
 | dict es => exact d x
 | fdict es => exact d x
 | inst dx => exact ⟨_, x, fun z => nomatch z⟩
 | attrs es => obtain ⟨_, _, e, _⟩:=x; exact ⟨_, e, (by decide:Value.type "dict" ≠ .type "tuple")⟩
theorem ObjR.at {a:Addr} {o:MObj} (x:ObjR c h a o):∃ ob, h.get? a = some ob:=let ⟨ob, e, _⟩:=x.kind; ⟨ob, e⟩
theorem ObjR.notTup {a:Addr} {ob:Obj} {o:MObj} (x:ObjR c h a o) (q:h.get? a = some ob):ob.cls ≠ .type "tuple":=by
 obtain ⟨ob', e, n⟩:=x.kind
 rw [q] at e
 cases e; exact n
theorem Ok.lt (k:Ok c σ h) {a:Addr} {o:MObj} (e:σ a = some o):a < h.objs.size:=let ⟨_, q⟩:=(k.obj a o e).at; Heap.lt_size q
theorem Ok.free (k:Ok c σ h) {a:Addr} (e:h.objs.size ≤ a):σ a = none:=by
 cases q:σ a with
 | none => rfl
 | some o => exact absurd (k.lt q) (Nat.not_lt.mpr e)
theorem Ok.baseOff (k:Ok c σ h) {b:Addr} {o:Obj} (e:c.base.get? b = some o):Mut σ b = false:=by
 cases q:Mut σ b with
 | false => rfl
 | true => rw [(k.new b q).1] at e; cases e
theorem Go.tups (k:Ok c σ h) (g:Go c σ h σ' h'):TupKeep h h':=fun a o e t _ => g.keep a o e (by
 cases q:σ a with
 | none => exact Mut.none q
 | some mo => exact absurd t ((k.obj a mo q).notTup e))
theorem Go.vr (k:Ok c σ h) (g:Go c σ h σ' h') {x:V} {v:Value} (e:VR h x v):VR h' x v:=e.keep (g.tups k)
theorem DictR.keep (t:TupKeep h h') {d:Addr} {es:List (Key × V)} (e:∀ o, h.get? d = some o → h'.get? d = some o) (x:DictR c h d es):DictR c h' d es:=by
 rcases x with ⟨kvs, ⟨o, en, ep, ho, r⟩, f⟩ | ⟨xs, ⟨o, en, ep, ho, r1, r2, r3, r4, r5⟩, f, g⟩
 ·exact .inl ⟨kvs, ⟨o, en, ep, e _ ho, r⟩, f.imp fun a b ⟨q1, q2⟩ => ⟨q1, q2.keep t⟩⟩
 ·refine .inr ⟨xs, ⟨o, en, ep, e _ ho, r1, r2, r3, fun x hx => ?_, r5⟩, f.imp fun a b ⟨q1, q2⟩ => ⟨q1, q2.keep t⟩, fun x hx => let ⟨its, n, q⟩:=g x hx; ⟨its, n, t _ _ q rfl ⟨_, _, rfl⟩⟩⟩
  obtain ⟨o', its, n, z1, z2, z3⟩:=r4 x hx
  exact ⟨o', its, n, t _ _ z1 z2 ⟨_, _, z3.1⟩, z2, z3⟩
theorem ObjR.keep (t:TupKeep h h') {a:Addr} (e:∀ o, h.get? a = some o → h'.get? a = some o) {mo:MObj} (x:ObjR c h a mo):ObjR c h' a mo:=by
 cases mo with
 | list _ => obtain ⟨vs, n, q, r⟩:=x; exact ⟨vs, n, e _ q, r.keep t⟩
 | frozen _ => obtain ⟨vs, ⟨o, q, z⟩, r⟩:=x; exact ⟨vs, ⟨o, e _ q, z⟩, r.keep t⟩
 | dict _ => exact DictR.keep t e x
 | fdict _ => exact DictR.keep t e x
 | inst _ => exact e _ x
 | attrs _ => obtain ⟨es, n, q, r⟩:=x; exact ⟨es, n, e _ q, r.imp fun _ _ z => ⟨z.1, z.2.keep t⟩⟩
theorem Ok.sysLt (k:Ok c σ h):sysModules < h.objs.size:=let ⟨_, _, e, l⟩:=k.room; Nat.lt_of_le_of_lt l (Heap.lt_size (k.base _ _ e))
theorem get?_ge {h:Heap} {a:Addr} (e:h.objs.size ≤ a):h.get? a = none:=by
 cases q:h.get? a with
 | none => rfl
 | some o => exact absurd (Heap.lt_size q) (Nat.not_lt.mpr e)
theorem Ok.fresh (k:Ok c σ h) {a:Addr} (e:h.objs.size ≤ a):c.base.get? a = none ∧ a ≠ sysModules:=by
 constructor
 ·cases q:c.base.get? a with
  | none => rfl
  | some o => rw [← k.base a o q, get?_ge e]
 ·intro z; subst z; exact absurd k.sysLt (Nat.not_lt.mpr e)
theorem Go.grow' (k:Ok c σ h) (x:∀ b o, h.get? b = some o → h'.get? b = some o):Go c σ h σ h' :=
 ⟨fun b o e _ => x b o e, fun _ e => .inl e, fun _ _ _ e => e, fun b o e => ⟨o, x b o e⟩, ⟨fun a o e => (k.obj a o e).keep (.all x) (x a), fun b o e => x b o (k.base b o e), k.new, k.room⟩⟩
theorem Go.grow (k:Ok c σ h) (x:∀ b o, h.get? b = some o → h'.get? b = some o) (_z:h.objs.size ≤ h'.objs.size):Go c σ h σ h':=Go.grow' k x
theorem Go.alloc' (k:Ok c σ h) (x:∀ b o, h.get? b = some o → h'.get? b = some o) {a:Addr} {o:MObj} (ha:h.objs.size ≤ a) (r:ObjR c h' a o):Go c σ h (σ.set a o) h':=by
 refine ⟨fun b o e _ => x b o e, fun b m => ?_, fun b ob e m => ?_, fun b o e => ⟨o, x b o e⟩, ⟨fun b o' e => ?_, fun b o e => x b o (k.base b o e), fun b m => ?_, k.room⟩⟩
 ·by_cases q:b = a
  ·exact .inr (get?_ge (q ▸ ha))
  ·rw [Mut.set_ne q] at m; exact .inl m
 ·rw [set_ne (fun z => by subst z; rw [get?_ge ha] at e; cases e)]; exact m
 ·by_cases q:b = a
  ·subst q; rw [set_eq] at e; cases e; exact r
  ·rw [set_ne q] at e; exact (k.obj b o' e).keep (.all x) (x b)
 ·by_cases q:b = a
  ·subst q; exact k.fresh ha
  ·rw [Mut.set_ne q] at m; exact k.new b m
theorem Go.alloc (k:Ok c σ h) (x:∀ b o, h.get? b = some o → h'.get? b = some o) (_z:h.objs.size ≤ h'.objs.size) {a:Addr} {o:MObj} (ha:h.objs.size ≤ a) (r:ObjR c h' a o):Go c σ h (σ.set a o) h':=Go.alloc' k x ha r
theorem Go.put (k:Ok c σ h) {a:Addr} {o o':MObj} (e:σ a = some o) (m:o.mut = true) (hs:Heap.SameBut a h h') (r:ObjR c h' a o'):Go c σ h (σ.set a o') h':=by
 have ma:Mut σ a = true:=by unfold Mut; rw [e]; cases o <;> first | rfl | cases m
 have t:TupKeep h h':=fun b ob q z _ => (hs.2 b (fun y => by subst y; exact (k.obj b o e).notTup q z)).trans q
 refine ⟨fun b ob q y => (hs.2 b (fun z => by subst z; rw [ma] at y; cases y)).trans q, fun b y => ?_, fun b ob _ m => ?_, fun b ob y => ?_, ⟨fun b ob y => ?_, fun b ob y => ?_, fun b y => ?_, k.room⟩⟩
 ·by_cases q:b = a
  ·exact .inl (q ▸ ma)
  ·rw [Mut.set_ne q] at y; exact .inl y
 ·rw [set_ne (fun z => by subst z; rw [e] at m; cases m)]; exact m
 ·by_cases q:b = a
  ·subst q; exact r.at
  ·exact ⟨ob, (hs.2 b q).trans y⟩
 ·by_cases q:b = a
  ·subst q; rw [set_eq] at y; cases y; exact r
  ·rw [set_ne q] at y
   exact (k.obj b ob y).keep t fun o z => (hs.2 b q).trans z
 ·have:=k.baseOff y
  exact (hs.2 b (fun z => by subst z; rw [ma] at this; cases this)).trans (k.base b ob y)
 ·by_cases q:b = a
  ·exact k.new b (q ▸ ma)
  ·rw [Mut.set_ne q] at y; exact k.new b y
end
end Mini
end
section
namespace Mini
open PySem PySem.W PyProof.Rows
noncomputable def AOk (A:Around) (n:Nat):Prop:=A.handled = none ∧ A.depth + n ≤ 890 ∧ A.units + 20 * n ≤ 9000
theorem AOk.mono {A:Around} {n m:Nat} (h:AOk A n) (l:m ≤ n):AOk A m:=⟨h.1, Nat.le_trans (Nat.add_le_add_left l _) h.2.1, Nat.le_trans (Nat.add_le_add_left (Nat.mul_le_mul_left 20 l) _) h.2.2⟩
theorem AOk.deeper {A:Around} {n:Nat} {env:Env} (h:AOk A (n + 1)):AOk (A.deeper env) n:=⟨h.1, Nat.le_trans (Nat.le_of_eq (Nat.add_right_comm A.depth 1 n)) h.2.1, Nat.le_trans (by rw [Around.deeper_units, Nat.add_right_comm]; exact Nat.le_trans (Nat.add_le_add_left (by decide:3 ≤ 20) _) (Nat.le_of_eq (Nat.add_assoc _ _ _))) h.2.2⟩
theorem AOk.units {A:Around} {n:Nat} (h:AOk A n):A.units < cLine:=Nat.lt_of_le_of_lt (Nat.le_trans (Nat.le_add_right _ _) h.2.2) (by decide)
theorem AOk.units1 {A:Around} {n:Nat} (h:AOk A n):A.in1.units < cLine:=Nat.lt_of_le_of_lt (Nat.succ_le_succ (Nat.le_trans (Nat.le_add_right _ _) h.2.2)) (by decide)
theorem AOk.room {A:Around} {n:Nat} (h:AOk A n):A.depth < recursionLimit:=Nat.lt_of_le_of_lt (Nat.le_trans (Nat.le_add_right _ _) h.2.1) (by decide)
section
variable (c:Cfg)
noncomputable def Sound (n:Nat) (f:Value) (spec:Spec):Prop :=
 ∀ (A:Around) (s:Shared) (σ:Store) (vs:List V) (vals:List Value) (Q:V → Store → Prop) (R:Result → Shared → Prop), AOk A n → Ok c σ s.heap → VRs s.heap vs vals → spec vs σ Q →
  (∀ v σ' val h' tk', Go c σ s.heap σ' h' → VR h' v val → Q v σ' → R (.ok (.ret val)) { s with heap:=h', toks:=tk' }) → codeAny (model c.prog c.w) A (.call f ⟨vals, []⟩) R s
noncomputable def bName:BFn → Str
 | .len => "len"
 | .abs => "abs"
 | .list => "list"
 | .sum => "sum"
noncomputable def bVal:BFn → Value
 | .len => .builtin "len"
 | .abs => .builtin "abs"
 | .list => .type "list"
 | .sum => .builtin "sum"
structure CfgOk:Prop where
 kin:c.K.In c.base
 g:c.base.Ns mainGlobals c.mg
 b:c.base.Ns builtinsNs c.mb
 lim:c.base.NoLimit
 sys:∃ a o, c.base.get? a = some o ∧ sysModules ≤ a
 bi:∀ x, c.mg (bName x) = none ∧ c.mb (bName x) = some (bVal x)
 rng:c.mg "range" = none ∧ c.mb "range" = some (.type "range")
 pg:plainGet c.K c.C "count" = true
 hd:hasDictIn c.K c.C = true
 po:plainOver c.K c.C = true
 sa:findIn c.K (.ref c.C) "__setattr__" = some (some (.builtin "object.__setattr__"))
 at_:∀ x ∈ attrNames, findIn c.K (.ref c.C) x = some none
structure GOk (n:Nat) (Γ:GE):Prop where
 glob:∀ x v, Γ.glob x = some v → ∃ val, c.mg x = some val ∧ ∀ h, VR h v val
 fn:∀ f spec, Γ.fn f = some spec → ∃ a, c.mg f = some (.ref a) ∧ keepIn c.K (.ref a) = true ∧ Sound c n (.ref a) spec
 meth:∀ f spec, Γ.meth f = some spec → ∃ a, findIn c.K (.ref c.C) f = some (some (.ref a)) ∧ isFn c.K (.ref a) = true ∧ keepIn c.K (.ref a) = true ∧ Sound c n (.ref a) spec
structure EnvR (env:Env) (ρ:Loc) (σ:Store) (h:Heap):Prop where
 fn:env.scope.kind = .function
 glb:env.globals = mainGlobals
 blt:env.builtins = builtinsNs
 loc:∃ m, h.Ns env.locals m ∧ ∀ x v, ρ.get x = some v → env.kindOf x = some .local → x ≠ (".0":Str) → ∃ val, m x = some val ∧ VR h v val
 cell:∀ x, env.kindOf x = some .cell ∨ env.kindOf x = some .free → ∃ a u, env.cells.lookup x = some a ∧ h.IsCell a u ∧ ∀ v, ρ.get x = some v → ∃ val, u = some val ∧ VR h v val
 offL:σ env.locals = Option.none ∧ c.base.get? env.locals = Option.none
 offC:∀ x a, env.cells.lookup x = some a → σ a = Option.none ∧ c.base.get? a = Option.none ∧ a ≠ env.locals ∧ ∃ u, h.IsCell a u
 apart:∀ x y a, env.kindOf x = some .cell → env.cells.lookup x = some a → env.cells.lookup y = some a → y = x
end
section
variable {c:Cfg} {σ σ' σ'':Store} {h h' h'':Heap} {env:Env} {ρ:Loc}
theorem EnvR.go (R:EnvR c env ρ σ h) (k:Ok c σ h) (g:Go c σ h σ' h'):EnvR c env ρ σ' h':=by
 obtain ⟨fn, glb, blt, ⟨m, hm, hl⟩, hc, ⟨ol1, ol2⟩, oc, ap⟩:=R
 obtain ⟨oL, es, ep, hL, r⟩:=id hm
 have kL:=g.keep _ _ hL (Mut.none ol1)
 have cell':∀ a u, σ a = none → h.IsCell a u → h'.IsCell a u:=fun a u q ⟨o, e, d⟩ => ⟨o, g.keep _ _ e (Mut.none q), d⟩
 refine ⟨fn, glb, blt, ⟨m, ⟨oL, es, ep, kL, r⟩, fun x v e q q0 => ?_⟩, fun x q => ?_, ⟨g.out _ _ hL ol1, ol2⟩, fun x a q => ?_, ap⟩
 ·obtain ⟨val, e1, e2⟩:=hl x v e q q0
  exact ⟨val, e1, g.vr k e2⟩
 ·obtain ⟨a, u, e1, e2, e3⟩:=hc x q
  refine ⟨a, u, e1, cell' a u (oc x a e1).1 e2, fun v e => ?_⟩
  obtain ⟨val, z1, z2⟩:=e3 v e
  exact ⟨val, z1, g.vr k z2⟩
 ·obtain ⟨q1, q2, q3, u, q4⟩:=oc x a q
  have ⟨o, e, _⟩:=q4
  exact ⟨g.out _ _ e q1, q2, q3, u, cell' a u q1 q4⟩
noncomputable def Own (env:Env) (b:Addr):Prop:=b = env.locals ∨ ∃ x, env.cells.lookup x = some b
structure GoS (c:Cfg) (env:Env) (σ:Store) (h:Heap) (σ':Store) (h':Heap):Prop where
 keep:∀ b o, h.get? b = some o → Mut σ b = false → ¬ Own env b → h'.get? b = some o
 dom:∀ b, Mut σ' b = true → Mut σ b = true ∨ h.get? b = Option.none
 out:∀ b o, h.get? b = some o → σ b = Option.none → σ' b = Option.none
 stay:∀ b o, h.get? b = some o → ∃ o', h'.get? b = some o'
 ok:Ok c σ' h'
 tups:TupKeep h h'
theorem Go.toS (k:Ok c σ h) (g:Go c σ h σ' h'):GoS c env σ h σ' h':=⟨fun b o e m _ => g.keep b o e m, g.dom, g.out, g.stay, g.ok, g.tups k⟩
theorem GoS.refl (k:Ok c σ h):GoS c env σ h σ h:=(Go.refl k).toS k
theorem GoS.off (g:GoS c env σ h σ' h') {b:Addr} {o:Obj} (e:h.get? b = some o) (m:Mut σ b = false):Mut σ' b = false:=by
 cases q:Mut σ' b with
 | false => rfl
 | true => rcases g.dom b q with r | r
           · rw [m] at r; cases r
           · rw [e] at r; cases r
theorem GoS.trans (g:GoS c env σ h σ' h') (g':GoS c env σ' h' σ'' h''):GoS c env σ h σ'' h'':=by
 refine ⟨fun b o e m w => g'.keep b o (g.keep b o e m w) (g.off e m) w, fun b m => (g'.dom b m).elim (g.dom b) fun r => ?_, fun b o e m => ?_, fun b o e => ?_, g'.ok, fun a o e t d => g'.tups a o (g.tups a o e t d) t d⟩
 ·cases q:Mut σ b with
  | true => exact .inl rfl
  | false => cases e:h.get? b with
   | none => exact .inr rfl
   | some o =>
    by_cases w:Own env b
    ·obtain ⟨o', y⟩:=g.stay b o e; rw [y] at r; cases r
    ·rw [g.keep b o e q w] at r; cases r
 ·by_cases w:Own env b
  ·obtain ⟨o', y⟩:=g.stay b o e
   exact g'.out b o' y (g.out b o e m)
  ·exact g'.out b o (g.keep b o e (Mut.none m) w) (g.out b o e m)
 ·obtain ⟨o', y⟩:=g.stay b o e
  exact g'.stay b o' y
section
variable {K α:Type} [DecidableEq K]
theorem aget_nil {k:K}:aget ([]:List (K × α)) k = none:=rfl
theorem aget_cons {e:K × α} {r:List (K × α)} {k:K}:aget (e :: r) k = if e.1 = k then some e.2 else aget r k:=by
 unfold aget
 rw [List.find?_cons]
 by_cases h:e.1 = k
 ·simp [h]
 ·simp [h]
theorem aget_append {es:List (K × α)} {k k':K} {v:α}:aget (es ++ [(k', v)]) k = match aget es k with | some u => some u | none => if k' = k then some v else none:=by
 induction es with
 | nil => rw [List.nil_append, aget_cons, aget_nil]
 | cons e r ih =>
  rw [List.cons_append, aget_cons, aget_cons, ih]
  by_cases h:e.1 = k <;> simp [h]
theorem aget_map {es:List (K × α)} {k k':K} {v:α}:aget (es.map fun e => if e.1 = k' then (e.1, v) else e) k = if k' = k then (aget es k).map fun _ => v else aget es k:=by
 induction es with
 | nil => rw [List.map_nil, aget_nil]; split <;> rfl
 | cons e r ih =>
  rw [List.map_cons, aget_cons, aget_cons, ih]
  by_cases h1:e.1 = k' <;> by_cases h2:k' = k
  ·subst h2; simp [h1]
  ·have:¬ e.1 = k:=fun z => h2 (h1.symm.trans z)
   simp [h1, h2, this]
  ·subst h2; simp [h1]
  ·simp [h1, h2]
theorem any_aget {es:List (K × α)} {k:K}:es.any (fun e => decide (e.1 = k)) = (aget es k).isSome:=by
 induction es with
 | nil => rfl
 | cons e r ih => rw [List.any_cons, aget_cons, ih]; by_cases h:e.1 = k <;> simp [h]
theorem aget_aset {es:List (K × α)} {k k':K} {v:α}:aget (aset es k' v) k = if k' = k then some v else aget es k:=by
 unfold aset
 rw [any_aget]
 split
 ·rename_i h
  rw [aget_map]
  by_cases q:k' = k
  ·subst q
   obtain ⟨u, hu⟩:=Option.isSome_iff_exists.mp h
   simp [hu]
  ·simp [q]
 ·rename_i h
  rw [aget_append]
  by_cases q:k' = k
  ·subst q
   have:aget es k' = none:=by simpa using h
   simp [this]
  ·simp only [if_neg q]
   cases aget es k <;> rfl
end
theorem Loc.get_set {ρ:Loc} {x y:Str} {v:V}:(ρ.set x v).get y = if y = x then some v else ρ.get y:=by
 refine aget_aset.trans ?_
 by_cases h:x = y
 ·rw [if_pos h, if_pos h.symm]
 ·rw [if_neg h, if_neg (Ne.symm h)]; rfl
theorem store_name {M:Model} {A:Around} {E:Value → Shared → Prop} {s:Shared} {x:Str} {v:V} {val:Value} {Q:Unit → Shared → Prop} (k:Ok c σ s.heap) (R:EnvR c env ρ σ s.heap)
  (hx:env.kindOf x = some .local ∨ env.kindOf x = some .cell) (hv:VR s.heap v val)
  (h:∀ h' tk', GoS c env σ s.heap σ h' → EnvR c env (ρ.set x v) σ h' → Q () { s with heap:=h', toks:=tk' }):wpAny M A (storeName env x val) Q E s:=by
 obtain ⟨fn, glb, blt, ⟨m, hm, hl⟩, hc, ⟨ol1, ol2⟩, oc, ap⟩:=R
 obtain ⟨oL, es, ep, hL, hLd, r⟩:=id hm
 have step:∀ a h', Own env a → Heap.SameBut a s.heap h' → (∀ o, s.heap.get? a = some o → o.cls = .type "tuple" → ¬ ∃ its n, o.data = .seq its n) → (∃ o', h'.get? a = some o') → GoS c env σ s.heap σ h':=by
  intro a h' ha hs nt hsome
  have am:σ a = none ∧ c.base.get? a = none:=by
   rcases ha with rfl | ⟨y, hy⟩
   ·exact ⟨ol1, ol2⟩
   ·exact ⟨(oc y a hy).1, (oc y a hy).2.1⟩
  have t:TupKeep s.heap h':=fun b o e z d => (hs.2 b (fun y => by subst y; exact nt o e z d)).trans e
  refine ⟨fun b o e _ w => (hs.2 b (fun y => w (y ▸ ha))).trans e, fun b e => .inl e, fun _ _ _ e => e, fun b o e => ?_, ⟨fun b o e => ?_, fun b o e => ?_, k.new, k.room⟩, t⟩
  ·by_cases q:b = a
   ·exact q ▸ hsome
   ·exact ⟨o, (hs.2 b q).trans e⟩
  ·have hr:=k.obj b o e
   by_cases q:b = a
   ·subst q; rw [am.1] at e; cases e
   ·exact hr.keep t fun ob z => (hs.2 b q).trans z
  ·exact (hs.2 b (fun y => by subst y; rw [am.2] at e; cases e)).trans (k.base b o e)
 rcases hx with hx | hx
 ·refine wpAny_storeName_local hx hm (fun h' hn' hs' => h h' _ (step _ _ (.inl rfl) hs' (fun o e z ⟨its, n, d⟩ => ?_) (let ⟨o', _, _, q, _⟩:=hn'; ⟨o', q⟩)) ?_) (by rw [fn]; rfl)
  ·rw [hL] at e; cases e; rw [hLd] at d; cases d
  ·have G:=step _ _ (.inl rfl) hs' (fun o e z ⟨its, n, d⟩ => by rw [hL] at e; cases e; rw [hLd] at d; cases d) (let ⟨o', _, _, q, _⟩:=hn'; ⟨o', q⟩)
   refine ⟨fn, glb, blt, ⟨_, hn', fun y u e q q0 => ?_⟩, fun y q => ?_, ⟨ol1, ol2⟩, fun y a q => ?_, ap⟩
   ·rw [Loc.get_set] at e
    show ∃ w, (if y = x then some val else m y) = some w ∧ VR h' u w
    by_cases hy:y = x
    ·rw [if_pos hy] at e ⊢; cases e; exact ⟨val, rfl, hv.keep G.tups⟩
    ·rw [if_neg hy] at e ⊢
     obtain ⟨w, z1, z2⟩:=hl y u e q q0
     exact ⟨w, z1, z2.keep G.tups⟩
   ·have hy:¬ y = x:=fun z => by subst z; rw [hx] at q; rcases q with q | q <;> cases q
    obtain ⟨a, u, z1, z2, z3⟩:=hc y q
    refine ⟨a, u, z1, z2.sameBut hs' (oc y a z1).2.2.1, fun v' e => ?_⟩
    rw [Loc.get_set, if_neg hy] at e
    obtain ⟨w, y1, y2⟩:=z3 v' e
    exact ⟨w, y1, y2.keep G.tups⟩
   ·obtain ⟨q1, q2, q3, u, q4⟩:=oc y a q
    exact ⟨q1, q2, q3, u, q4.sameBut hs' q3⟩
 ·obtain ⟨a, u, ha, hu, _⟩:=hc x (.inl hx)
  obtain ⟨am, ab, aL, _⟩:=oc x a ha
  refine wpAny_storeName_cell fn hx ha hu fun h' hc' hs' => ?_
  have nt:∀ o, s.heap.get? a = some o → o.cls = .type "tuple" → ¬ ∃ its n, o.data = .seq its n:=fun o e _ ⟨its, n, d⟩ => by
   obtain ⟨o', z1, z2⟩:=hu; rw [z1] at e; cases e; rw [z2] at d; cases d
  have G:=step a h' (.inr ⟨x, ha⟩) hs' nt (let ⟨o', q, _⟩:=hc'; ⟨o', q⟩)
  refine h h' s.toks G ⟨fn, glb, blt, ⟨m, hm.sameBut hs' (Ne.symm aL), fun y w e q q0 => ?_⟩, fun y q => ?_, ⟨ol1, ol2⟩, fun y b q => ?_, ap⟩
  ·have hy:¬ y = x:=fun z => by subst z; rw [hx] at q; cases q
   rw [Loc.get_set, if_neg hy] at e
   obtain ⟨w', z1, z2⟩:=hl y w e q q0
   exact ⟨w', z1, z2.keep G.tups⟩
  ·obtain ⟨b, u', z1, z2, z3⟩:=hc y q
   by_cases hy:y = x
   ·subst hy
    rw [ha] at z1; cases z1
    refine ⟨a, some val, ha, hc', fun v' e => ?_⟩
    rw [Loc.get_set, if_pos rfl] at e; cases e
    exact ⟨val, rfl, hv.keep G.tups⟩
   ·have hb:b ≠ a:=fun z => by subst z; exact hy (ap x y b hx ha z1)
    refine ⟨b, u', z1, z2.sameBut hs' hb, fun v' e => ?_⟩
    rw [Loc.get_set, if_neg hy] at e
    obtain ⟨w', y1, y2⟩:=z3 v' e
    exact ⟨w', y1, y2.keep G.tups⟩
  ·obtain ⟨q1, q2, q3, u', q4⟩:=oc y b q
   by_cases hb:b = a
   ·subst hb; exact ⟨q1, q2, q3, some val, hc'⟩
   ·exact ⟨q1, q2, q3, u', q4.sameBut hs' hb⟩
end
end Mini
end
section
namespace Mini
open PySem PySem.W PyProof.Rows
noncomputable def PostV (c:Cfg) (s:Shared) (σ:Store) (Q:V → Store → Prop) (Q':Value → Shared → Prop):Prop :=
 ∀ v σ' val h' tk', Go c σ s.heap σ' h' → VR h' v val → Q v σ' → Q' val { s with heap:=h', toks:=tk' }
section
variable {c:Cfg} {A:Around} {E:Value → Shared → Prop} {s:Shared} {σ:Store} {Q:V → Store → Prop} {Q':Value → Shared → Prop}
theorem PostV.same (P:PostV c s σ Q Q') (k:Ok c σ s.heap) {v:V} {val:Value} (hv:VR s.heap v val) (hq:Q v σ) (tk:Nat):Q' val { s with toks:=tk } :=
 P v σ val s.heap tk (Go.refl k) hv hq
theorem PostV.here (P:PostV c s σ Q Q') (k:Ok c σ s.heap) {v:V} {val:Value} (hv:VR s.heap v val) (hq:Q v σ):Q' val s :=
 P v σ val s.heap s.toks (Go.refl k) hv hq
theorem size_push (h:Heap) (o:Obj):h.objs.size ≤ (h.push o).objs.size:=by rw [Heap.size_push]; exact Nat.le_succ _
theorem PostV.new (P:PostV c s σ Q Q') (k:Ok c σ s.heap) {o:Obj} {mo:MObj} (hq:newObj σ mo Q) (r:ObjR c (s.heap.push o) s.heap.objs.size mo) (tk:Nat) :
  Q' (.ref s.heap.objs.size) { s with heap:=s.heap.push o, toks:=tk } :=
 P (.ref _) _ _ _ tk (Go.alloc k (fun _ _ e => Heap.get?_push_of_some _ e) (size_push _ _) (Nat.le_refl _) r) rfl (hq _ (k.free (Nat.le_refl _)))
theorem listR (h:Heap) {vs:List Value} {xs:List V} (r:VRs h xs vs):ObjR c (h.push { cls:=.type "list", data:=.seq vs.toArray }) h.objs.size (.list xs) :=
 ⟨vs, 0, IsL.new h _, r.keep (.all fun _ _ e => Heap.get?_push_of_some _ e)⟩
theorem VR.shapeTup {h:Heap} {xs:List V} {v:Value} (e:VR h (.tup xs) v):∃ a vs n, v = .ref a ∧ IsT h a (List.toArray vs) n ∧ VRs h xs vs:=e
theorem VR.int (h:Heap) (i:Int) (t:Tok):VR h (.int i) (.int i t):=⟨t, rfl⟩
theorem VR.str (h:Heap) (i:Str) (t:Tok):VR h (.str i) (.str i t):=⟨t, rfl⟩
theorem mulOk {a b:Int} (h:MulOk a b):IntMulOk a b:=by
 unfold IntMulOk
 rcases h with h | h
 ·have:¬ Builtin.Int.intBits a > shortFactorBits:=by have:=(intBits_le_iff (m:=64)).mpr h; show ¬ _ > 64; omega
  simp [this]
 ·have:¬ Builtin.Int.intBits b > shortFactorBits:=by have:=(intBits_le_iff (m:=64)).mpr h; show ¬ _ > 64; omega
  simp [this]
theorem notPylong {a b:Int} (h:b.natAbs < 2 ^ 64):Builtin.divisionGoesByPylong a b = false:=by
 have q:(if b == 0 then 0 else b.natAbs.log2 / 30 + 1) ≤ 300:=by
  split
  ·omega
  ·have:b.natAbs.log2 ≤ 64:=by
    by_cases e:b.natAbs = 0
    ·rw [e]; decide
    ·exact Nat.le_of_lt ((Nat.log2_lt e).mpr h)
   omega
 unfold Builtin.divisionGoesByPylong
 dsimp only
 rw [decide_eq_false (Nat.not_lt.mpr q), Bool.false_and]
theorem list_mul_one {x:Value} {n:Nat}:(List.foldl (fun x1 x2 => x1 ++ x2) #[] (List.replicate n #[x])) = (List.replicate n x).toArray:=by
 have:∀ (n:Nat) (acc:Array Value), List.foldl (fun x1 x2 => x1 ++ x2) acc (List.replicate n #[x]) = acc ++ (List.replicate n x).toArray:=by
  intro n
  induction n with
  | zero => intro acc; exact Array.append_empty.symm
  | succ n ih => intro acc; rw [List.replicate_succ, List.replicate_succ, List.foldl_cons, ih, Array.append_assoc]; exact congrArg (acc ++ ·) (List.append_toArray [x] _)
 exact (this n #[]).trans Array.empty_append
theorem sz1000 {n:Nat} (h:n ≤ 1000):n ≤ sizeLine:=by rw [sizeLine_eq]; omega
theorem mul_fits {v:Value} {n:Int} (l1:0 ≤ n) (l2:n ≤ 1000):¬(!Builtin.List.listFitsIndex n) = true ∧ ¬[v].toArray.size * n.toNat > (2 ^ 63 - 1) / 8 ∧ ¬Builtin.List.listTooLong ([v].toArray.size * n.toNat) = true :=
 ⟨by simp [Builtin.List.listFitsIndex]; omega, by simp; omega, by simp [Builtin.List.listTooLong, sizeLine]; omega⟩
theorem le_mill {n:Int} (h:n ≤ 1000):n ≤ 1000000:=Int.le_trans h (by decide)
theorem nums {o:Operator} {f:Int → Int → Prop} {u v:V} {a b:Value} (ha:VR s.heap u a) (hb:VR s.heap v b) (h:u.int1 fun i => v.int1 fun j => f i j) (g:∀ {i t j t'}, f i j → wpAny (model c.prog c.w) A (binaryOp o (.int i t) (.int j t')) Q' E s):wpAny (model c.prog c.w) A (binaryOp o a b) Q' E s:=by
 obtain ⟨i, rfl, h1⟩:=V.of_int1 h
 obtain ⟨j, rfl, h2⟩:=V.of_int1 h1
 obtain ⟨t, rfl⟩:=ha
 obtain ⟨t', rfl⟩:=hb
 exact g h2
theorem r_bin {op:Operator} {u v:V} {a b:Value} (k:Ok c σ s.heap) (ha:VR s.heap u a) (hb:VR s.heap v b) (h:binOp op u v σ Q) (P:PostV c s σ Q Q') :
  wpAny (model c.prog c.w) A (binaryOp op a b) Q' E s:=by
 cases op with
 | Add =>
  cases u with
  | int i =>
   obtain ⟨j, rfl, h⟩:=V.of_int1 (show v.int1 _ from h)
   obtain ⟨t, rfl⟩:=ha; obtain ⟨t', rfl⟩:=hb; exact add_int (P.same k (.int _ _ _) h _)
  | str x =>
   obtain ⟨y, rfl, h⟩:=V.of_str1 h
   obtain ⟨t, rfl⟩:=ha; obtain ⟨t', rfl⟩:=hb
   exact add_str (fun t' tk => P.same k (.str _ _ _) h.2 _) (sz1000 h.1)
  | ref x =>
   obtain ⟨y, rfl, xs, ys, e1, e2, l, hq⟩:=V.of_ref1 h
   cases ha; cases hb
   obtain ⟨vs, n, h1, r1⟩:=k.obj _ _ e1
   obtain ⟨us, m, h2, r2⟩:=k.obj _ _ e2
   refine PySem.P.add_list h1 h2 ?_ ?_
   ·rw [List.append_toArray]
    exact PostV.new P k hq (listR _ (r1.append r2)) _
   ·rw [List.size_toArray, List.size_toArray, ← r1.length, ← r2.length]; exact sz1000 l
  | _ => exact False.elim h
 | Mult =>
  cases u with
  | int i =>
   obtain ⟨j, rfl, h⟩:=V.of_int1 (show v.int1 _ from h)
   obtain ⟨t, rfl⟩:=ha; obtain ⟨t', rfl⟩:=hb; exact mul_int (P.same k (.int _ _ _) h.2 _) (mulOk h.1)
  | ref a =>
   obtain ⟨n, rfl, x, e1, l1, l2, hq⟩:=V.of_int1 h
   cases ha; obtain ⟨t', rfl⟩:=hb
   obtain ⟨vs, m, h1, v, r, rfl, q, rfl⟩:=k.obj _ _ e1
   refine wpAny_binaryOp_repeat_ref (T:="list") (U:="int") (by decide) ⟨_, h1, rfl⟩ (fun s' => typeIs_int s' n t') noFill_list_mul F.fills_int_mul F.slot_int_rmul repeat_list F.slot_int_index.lookup
    (call_meets F.slot_int_rmul (typeIs_int s n t') F.entry_int_rmul (F.args_int_rmul_2 _ _) (int___rmul___int_list n t' a [v].toArray m)
     ⟨h1, rfl, ⟨_, h1, rfl⟩, call_meets F.slot_list_mul ⟨_, h1, rfl⟩ F.entry_list_mul (F.args_list_mul_2 _ _)
      (AutoListH.list___mul___list_int_3 a [v].toArray m n t' (mul_fits (v:=v) l1 l2).1 (mul_fits (v:=v) l1 l2).2.1 (mul_fits (v:=v) l1 l2).2.2) ⟨h1, ?_⟩⟩)
   rw [show (if ([v].toArray.isEmpty = true) then 0 else n.toNat) = n.toNat from rfl, list_mul_one]
   exact PostV.new P k hq (listR _ (VRs.replicate q _)) _
  | _ => exact False.elim h
 | Sub => exact nums ha hb h fun h => sub_int' (P.same k (.int _ _ _) h _)
 | FloorDiv => exact nums ha hb h fun h => floordiv_int h.1 (P.same k (.int _ _ _) h.2.2 _) (.inl (notPylong h.2.1))
 | Mod => exact nums ha hb h fun h => mod_int' h.1 (P.same k (.int _ _ _) h.2 _)
 | Pow => exact nums ha hb h fun h => pow_int_small h.1 (le_mill h.2.1) h.2.2.1 (P.same k (.int _ _ _) h.2.2.2 _)
 | LShift => exact nums ha hb h fun h => lshift_int_small h.1 (le_mill h.2.1) h.2.2.1 (P.same k (.int _ _ _) h.2.2.2 _)
 | RShift => exact nums ha hb h fun h => rshift_int h.1 (P.same k (.int _ _ _) h.2 _)
 | BitAnd => exact nums ha hb h fun h => and_int (P.same k (.int _ _ _) h _)
 | BitOr => exact nums ha hb h fun h => or_int (P.same k (.int _ _ _) h _)
 | BitXor => exact nums ha hb h fun h => xor_int (P.same k (.int _ _ _) h _)
 | MatMult => exact False.elim h
 | Div => exact False.elim h
end
end Mini
end
section
namespace Mini
open PySem PySem.W PyProof.Rows
open PySem.SeqAt (EqAt RcAt RcNeAt)
theorem isTuple_of {h:Heap} {a:Addr} {vs:List Value} {n:Nat} (t:IsT h a vs.toArray n):h.IsTuple a vs.toArray:=⟨_, t, rfl, n, rfl⟩
theorem all_range {e:Nat → Bool} {n:Nat}:(List.range (n + 1)).all e = (e 0 && (List.range n).all fun j => e (j + 1)):=by
 rw [List.range_succ_eq_map, List.all_cons, List.all_map]; rfl
theorem decide_beq {α:Type} [DecidableEq α] (x y:α):decide (x = y) = (x == y):=by
 by_cases q:x = y
 ·rw [q, beq_self_eq_true, decide_eq_true rfl]
 ·rw [beq_eq_false_iff_ne.mpr q, decide_eq_false q]
theorem of_and2 {a b:Option Bool} {r:Bool} (h:and2 a b = some r):∃ x y, a = some x ∧ b = some y ∧ r = (x && y):=by
 obtain ⟨x, e, h⟩:=bdk h
 obtain ⟨y, e', rfl⟩:=bd1 h
 exact ⟨x, y, e, e', rfl⟩
theorem ul {m n k:Nat} (h:m + n < k):m < k:=Nat.lt_of_le_of_lt (Nat.le_add_right _ _) h
theorem ul1 {m n k:Nat} (h:m + (n + 1) < k):m + 1 + n < k:=by rw [Nat.add_assoc, Nat.add_comm 1 n]; exact h
section
variable {s:Shared} {A:Around}
theorem eqS_at {P:Value → Value → Bool → Prop} {t:List V → List V → Option Bool} {rf:Addr → Addr → Option Bool} {u v:V} {a b:Value} {r:Bool} (hu:A.units < cLine)
  (hB:∀ {a b r}, EqAt A s a b r → RcAt A s a b r → RcNeAt A s a b (!r) → P a b r) (Ht:∀ {xs ys a b r}, t xs ys = some r → VR s.heap (.tup xs) a → VR s.heap (.tup ys) b → P a b r)
  (Hr:∀ {a b r}, rf a b = some r → P (.ref a) (.ref b) r) (h:eqS t rf u v = some r) (ha:VR s.heap u a) (hb:VR s.heap v b):P a b r:=by
 cases u with
 | none =>
  cases ha
  cases v with
  | none => cases h; cases hb; exact hB (.same _) .none_none .none_none
  | tup ys => cases h; obtain ⟨x, vs, m, rfl, ht, _⟩:=hb.shapeTup; exact hB (.none_tuple (isTuple_of ht) hu) (.none_tuple (isTuple_of ht) hu) (.none_tuple (isTuple_of ht) hu)
  | _ => exact nomatch h
 | int i =>
  obtain ⟨t, rfl⟩:=ha
  cases v with
  | int j =>
   obtain ⟨t', rfl⟩:=hb
   cases h; rw [decide_beq]; exact hB (.int_int _ _ _ _) (.int_int _ _ _ _) (.int_int _ _ _ _)
  | str y => obtain ⟨t', rfl⟩:=hb; cases h; exact hB (.int_str _ _ _ _) (.int_str _ _ _ _) (.int_str _ _ _ _)
  | _ => exact nomatch h
 | str i =>
  obtain ⟨t, rfl⟩:=ha
  cases v with
  | str j =>
   obtain ⟨t', rfl⟩:=hb
   cases h; rw [decide_beq]; exact hB (.str_str _ _ _ _) (.str_str _ _ _ _) (.str_str _ _ _ _)
  | int y => obtain ⟨t', rfl⟩:=hb; cases h; exact hB (.str_int _ _ _ _) (.str_int _ _ _ _) (.str_int _ _ _ _)
  | _ => exact nomatch h
 | tup xs =>
  cases v with
  | none => cases h; cases hb; obtain ⟨x, vs, m, rfl, ht, _⟩:=ha.shapeTup; exact hB (.tuple_none (isTuple_of ht) hu) (.tuple_none (isTuple_of ht) hu) (.tuple_none (isTuple_of ht) hu)
  | tup ys => exact Ht h ha hb
  | _ => exact nomatch h
 | ref x =>
  cases ha
  cases v with
  | ref y => cases hb; exact Hr h
  | _ => exact nomatch h
 | bool _ => exact nomatch h
theorem allW_at {f:V → V → Option Bool} (H:∀ {u v a b r}, f u v = some r → VR s.heap u a → VR s.heap v b → EqAt A s a b r):∀ {xs ys:List V} {vs us:List Value} {r:Bool}, allW f xs ys = some r → VRs s.heap xs vs → VRs s.heap ys us →
  ∃ e:Nat → Bool, (∀ j (h1:j < vs.length) (h2:j < us.length), EqAt A s vs[j] us[j] (e j)) ∧ r = ((List.range (min vs.toArray.size us.toArray.size)).all e && vs.toArray.size == us.toArray.size):=by
 intro xs
 induction xs with
 | nil =>
  intro ys vs us r h hx hy
  cases (show vs = [] from hx)
  cases ys with
  | nil => cases (show us = [] from hy); cases h; exact ⟨fun _ => true, fun j h1 _ => absurd h1 (Nat.not_lt_zero _), rfl⟩
  | cons y ys => obtain ⟨v, q, rfl, _, _⟩:=hy; cases h; exact ⟨fun _ => true, fun j h1 _ => absurd h1 (Nat.not_lt_zero _), (Bool.and_false _).symm⟩
 | cons x xs ih =>
  intro ys vs us r h hx hy
  obtain ⟨v, vs, rfl, hv, hx⟩:=hx
  cases ys with
  | nil => cases (show us = [] from hy); cases h; exact ⟨fun _ => true, fun j _ h1 => absurd h1 (Nat.not_lt_zero _), (Bool.and_false _).symm⟩
  | cons y ys =>
   obtain ⟨u, us, rfl, hw, hy⟩:=hy
   obtain ⟨a, b, h1, h2, rfl⟩:=of_and2 h
   obtain ⟨e, he, hr⟩:=ih h2 hx hy
   refine ⟨fun j => match j with | 0 => a | j + 1 => e j, fun j q1 q2 => ?_, ?_⟩
   ·cases j with
    | zero => exact H h1 hv hw
    | succ j => exact he j (Nat.lt_of_succ_lt_succ q1) (Nat.lt_of_succ_lt_succ q2)
   ·rw [hr]
    simp only [List.size_toArray, List.length_cons, Nat.succ_min_succ, all_range, Bool.and_assoc]
    congr 2
    by_cases q:vs.length = us.length
    ·rw [q, beq_self_eq_true, beq_self_eq_true]
    ·rw [beq_eq_false_iff_ne.mpr q, beq_eq_false_iff_ne.mpr fun z => q (Nat.succ.inj z)]
theorem tup_one {h:Heap} {x:Addr} {xs ys:List V} (ha:VR h (.tup xs) (.ref x)) (hb:VR h (.tup ys) (.ref x)):∃ vs, VRs h xs vs ∧ VRs h ys vs:=by
 obtain ⟨x1, vs, m, z, ht, hx⟩:=ha
 obtain ⟨x2, us, m', z', ht', hy⟩:=hb
 cases z; cases z'
 have e:=(show h.get? x = _ from ht).symm.trans ht'
 injection e with e
 injection e with _ _ e _
 injection e with e _
 have e:vs = us:=congrArg Array.toList e
 exact ⟨vs, hx, e ▸ hy⟩
theorem tup_ref {h:Heap} {xs:List V} {a:Value} (ha:VR h (.tup xs) a):∃ x, a = .ref x:=let ⟨x, _, _, e, _⟩:=ha; ⟨x, e⟩
theorem eqS_same {h:Heap} {t:List V → List V → Option Bool} (Ht:∀ {xs ys vs r}, t xs ys = some r → VRs h xs vs → VRs h ys vs → r = true) {x y:V} {v:Value} {r:Bool} (e:eqS t (fun _ _ => none) x y = some r) (hx:VR h x v) (hy:VR h y v):r = true:=by
 cases x with
 | none =>
  cases hx
  cases y with
  | none => exact (Option.some.inj e).symm
  | tup ys => obtain ⟨_, z⟩:=tup_ref hy; exact nomatch z
  | _ => exact nomatch e
 | int i =>
  obtain ⟨t, rfl⟩:=hx
  cases y with
  | int j => obtain ⟨t', z⟩:=hy; cases z; exact (Option.some.inj e).symm.trans (decide_eq_true rfl)
  | str j => obtain ⟨t', z⟩:=hy; exact nomatch z
  | _ => exact nomatch e
 | str i =>
  obtain ⟨t, rfl⟩:=hx
  cases y with
  | str j => obtain ⟨t', z⟩:=hy; cases z; exact (Option.some.inj e).symm.trans (decide_eq_true rfl)
  | int j => obtain ⟨t', z⟩:=hy; exact nomatch z
  | _ => exact nomatch e
 | tup xs =>
  obtain ⟨a, rfl⟩:=tup_ref hx
  cases y with
  | none => exact nomatch hy
  | tup ys => obtain ⟨vs, h1, h2⟩:=tup_one hx hy; exact Ht e h1 h2
  | _ => exact nomatch e
 | ref a => cases y <;> exact nomatch e
 | bool b => exact nomatch e
theorem allW_same {h:Heap} {f:V → V → Option Bool} (H:∀ {x y v r}, f x y = some r → VR h x v → VR h y v → r = true):∀ {xs ys:List V} {vs:List Value} {r:Bool}, allW f xs ys = some r → VRs h xs vs → VRs h ys vs → r = true:=by
 intro xs
 induction xs with
 | nil =>
  intro ys vs r e hx hy
  cases (show vs = [] from hx)
  cases ys with
  | nil => exact (Option.some.inj e).symm
  | cons y ys => obtain ⟨v, q, z, _, _⟩:=hy; exact nomatch z
 | cons x xs ih =>
  intro ys vs r e hx hy
  obtain ⟨v, vs, rfl, hv, hx⟩:=hx
  cases ys with
  | nil => exact nomatch (show v :: vs = [] from hy)
  | cons y ys =>
   obtain ⟨u, us, z, hw, hy⟩:=hy
   cases z
   obtain ⟨a, b, h1, h2, rfl⟩:=of_and2 e
   rw [H h1 hv hw, ih h2 hx hy]; rfl
theorem eqA_same {h:Heap}:∀ {n:Nat} {x y:V} {v:Value} {r:Bool}, eqA n x y = some r → VR h x v → VR h y v → r = true:=by
 intro n
 induction n with
 | zero => intro x y v r e; exact eqS_same (t:=fun _ _ => none) (fun e => nomatch e) e
 | succ n ih => intro x y v r e; exact eqS_same (t:=allW (eqA n)) (fun e => allW_same ih e) e
theorem tups_at {f:V → V → Option Bool} (hu:A.units < cLine) (S:∀ {x y v r}, f x y = some r → VR s.heap x v → VR s.heap y v → r = true) (H:∀ {u v a b r}, f u v = some r → VR s.heap u a → VR s.heap v b → EqAt A.in1 s a b r) {xs ys:List V} {a b:Value} {r:Bool}
  (h:allW f xs ys = some r) (ha:VR s.heap (.tup xs) a) (hb:VR s.heap (.tup ys) b):EqAt A s a b r ∧ RcAt A s a b r ∧ RcNeAt A s a b (!r):=by
 obtain ⟨x, vs, m, rfl, ht, hx⟩:=id ha
 obtain ⟨y, us, m', rfl, ht', hy⟩:=id hb
 obtain ⟨e, he, hr⟩:=allW_at (A:=A.in1) H h hx hy
 have k1:RcAt A s (.ref x) (.ref y) r:=hr ▸ RcAt.tuples (isTuple_of ht) (isTuple_of ht') hu (fun j h1 h2 => he j h1 h2)
 have k2:RcNeAt A s (.ref x) (.ref y) (!r):=hr ▸ RcNeAt.tuples (isTuple_of ht) (isTuple_of ht') hu (fun j h1 h2 => he j h1 h2)
 refine ⟨?_, k1, k2⟩
 by_cases hxy:x = y
 ·subst hxy
  obtain ⟨ws, g1, g2⟩:=tup_one ha hb
  rw [allW_same S h g1 g2]; exact .same _
 ·exact .of_refs hxy k1
theorem eqA3_at:∀ {n:Nat} {A:Around} {u v:V} {a b:Value} {r:Bool}, A.units + n < cLine → eqA n u v = some r → VR s.heap u a → VR s.heap v b → EqAt A s a b r ∧ RcAt A s a b r ∧ RcNeAt A s a b (!r):=by
 intro n
 induction n with
 | zero => intro A u v a b r hu h ha hb; exact eqS_at (t:=fun _ _ => none) (rf:=fun _ _ => none) (P:=fun a b r => EqAt A s a b r ∧ RcAt A s a b r ∧ RcNeAt A s a b (!r)) (ul hu) (fun h1 h2 h3 => ⟨h1, h2, h3⟩) (fun h => nomatch h) (fun h => nomatch h) h ha hb
 | succ n ih => intro A u v a b r hu h ha hb; exact eqS_at (t:=allW (eqA n)) (rf:=fun _ _ => none) (P:=fun a b r => EqAt A s a b r ∧ RcAt A s a b r ∧ RcNeAt A s a b (!r)) (ul hu) (fun h1 h2 h3 => ⟨h1, h2, h3⟩) (fun h => tups_at (ul hu) eqA_same (fun h1 h2 h3 => (ih (A:=A.in1) (ul1 hu) h1 h2 h3).1) h) (fun h => nomatch h) h ha hb
theorem eqA_at {n:Nat} {u v:V} {a b:Value} {r:Bool} (hu:A.units + n < cLine) (h:eqA n u v = some r) (ha:VR s.heap u a) (hb:VR s.heap v b):EqAt A s a b r:=(eqA3_at hu h ha hb).1
end
section
variable {c:Cfg} {A:Around} {E:Value → Shared → Prop} {s:Shared} {σ:Store}
theorem ul4 {m:Nat} (h:m + 10 < cLine):m + 1 + 3 < cLine:=Nat.lt_of_le_of_lt (Nat.add_le_add_left (by decide:1 + 3 ≤ 10) m) h
theorem rcL_at (k:Ok c σ s.heap) (hu:A.units + 10 < cLine) {a b:Addr} {xs ys:List V} {r:Bool} (e1:σ a = some (.list xs)) (e2:σ b = some (.list ys)) (h:deqL xs ys = some r) :
  RcAt A s (.ref a) (.ref b) r ∧ RcNeAt A s (.ref a) (.ref b) (!r):=by
 obtain ⟨vs, n, h1, r1⟩:=k.obj _ _ e1
 obtain ⟨us, m, h2, r2⟩:=k.obj _ _ e2
 unfold deqL at h
 by_cases ne:xs.length = ys.length
 ·rw [if_neg fun z => z ne] at h
  have hl:vs.toArray.size = us.toArray.size:=(r1.length.symm.trans ne).trans r2.length
  obtain ⟨e, he, hr⟩:=allW_at (A:=A.in1) (fun h h1 h2 => eqA_at (n:=3) (ul4 hu) h h1 h2) h r1 r2
  have hr':r = (List.range vs.toArray.size).all e:=by rw [hr, hl, Nat.min_self, beq_self_eq_true, Bool.and_true]
  rw [hr']
  exact ⟨RcAt.lists h1.isList h2.isList hl (ul hu) (fun j q1 q2 => he j q1 q2), RcNeAt.lists h1.isList h2.isList hl (ul hu) (fun j q1 q2 => he j q1 q2)⟩
 ·rw [if_pos ne] at h
  cases h
  have:(vs.toArray.size != us.toArray.size) = true:=bne_iff_ne.mpr fun z => ne ((r1.length.trans z).trans r2.length.symm)
  exact ⟨.lists_lengths h1.isList h2.isList this (ul hu), .lists_lengths h1.isList h2.isList this (ul hu)⟩
theorem of_deqR {d:Option (V → V → Option Bool)} {a b:Addr} {r:Bool} (h:deqR σ d a b = some r):(∃ xs ys, σ a = some (.list xs) ∧ σ b = some (.list ys) ∧ deqL xs ys = some r) ∨ ∃ es fs, σ a = some (.dict es) ∧ σ b = some (.dict fs) ∧ deqD d a b es fs = some r:=by
 unfold deqR at h
 rcases mobj (σ a) with e | ⟨xs, e⟩ | ⟨es, e⟩ | ⟨_, e⟩ | ⟨_, e⟩ | ⟨_, e⟩ | ⟨_, e⟩ <;> rw [e] at h
 ·exact nomatch h
 ·rcases mobj (σ b) with e' | ⟨ys, e'⟩ | ⟨fs, e'⟩ | ⟨_, e'⟩ | ⟨_, e'⟩ | ⟨_, e'⟩ | ⟨_, e'⟩ <;> rw [e'] at h
  ·exact nomatch h
  ·exact .inl ⟨xs, ys, e, e', h⟩
  all_goals exact nomatch h
 ·rcases mobj (σ b) with e' | ⟨ys, e'⟩ | ⟨fs, e'⟩ | ⟨_, e'⟩ | ⟨_, e'⟩ | ⟨_, e'⟩ | ⟨_, e'⟩ <;> rw [e'] at h
  ·exact nomatch h
  ·exact nomatch h
  ·exact .inr ⟨es, fs, e, e', h⟩
  all_goals exact nomatch h
 all_goals exact nomatch h
theorem deq0 (k:Ok c σ s.heap) (hu:A.units + 10 < cLine) {u v:V} {a b:Value} {r:Bool} (ha:VR s.heap u a) (hb:VR s.heap v b) (h:deqV σ 0 u v = some r):RcAt A s a b r ∧ RcNeAt A s a b (!r):=by
 refine eqS_at (A:=A) (t:=allW (eqA 3)) (rf:=deqR σ none) (P:=fun a b r => RcAt A s a b r ∧ RcNeAt A s a b (!r)) (ul hu) (fun _ h2 h3 => ⟨h2, h3⟩) (fun h h1 h2 => (tups_at (ul hu) eqA_same (fun h1 h2 h3 => eqA_at (n:=3) (ul4 hu) h1 h2 h3) h h1 h2).2) (fun h => ?_) h ha hb
 rcases of_deqR h with ⟨xs, ys, e1, e2, h⟩ | ⟨es, fs, _, _, h⟩
 ·exact rcL_at k hu e1 e2 h
 ·exact nomatch h
theorem r_eq {u v:V} {a b:Value} {r:Bool} {Q:Value → Shared → Prop} (k:Ok c σ s.heap) (hu:A.units + 10 < cLine) (ha:VR s.heap u a) (hb:VR s.heap v b) (h:deqV σ 0 u v = some r) (hq:Q (.bool r) s) :
  wpAny (model c.prog c.w) A (compareOp .Eq a b) Q E s:=(deq0 k hu ha hb h).1 _ _ _ _ hq
theorem r_ne0 {u v:V} {a b:Value} {r:Bool} {Q:Value → Shared → Prop} (k:Ok c σ s.heap) (hu:A.units + 10 < cLine) (ha:VR s.heap u a) (hb:VR s.heap v b) (h:deqV σ 0 u v = some r) (hq:Q (.bool (!r)) s) :
  wpAny (model c.prog c.w) A (compareOp .NotEq a b) Q E s:=(deq0 k hu ha hb h).2 _ _ _ _ hq
noncomputable def EqP (c:Cfg) (A:Around) (s:Shared) (y x:Value) (b:Bool):Prop:=∀ (E:Value → Shared → Prop) (Q:Bool → Shared → Prop), Q b s → wpAny (model c.prog c.w) A (eqBool y x) Q E s
theorem EqP.of {y x:Value} {b:Bool} (h:EqAt A s y x b):EqP c A s y x b:=fun E Q q => h _ _ E Q q
noncomputable def Hits (c:Cfg) (A:Around) (s:Shared) (kb:List (Atom × Value)):List (Atom × Value) → Bool → Prop
 | [], b => b = true
 | kv :: r, b => (valueAt kb kv.1 = none ∧ b = false) ∨ ∃ y e b', valueAt kb kv.1 = some y ∧ EqP c A s kv.2 y e ∧ Hits c A s kb r b' ∧ b = (e && b')
section
variable {kb:List (Atom × Value)} {kv:Atom × Value} {r:List (Atom × Value)} {b:Bool}
theorem Hits.nil:Hits c A s kb [] true:=rfl
theorem Hits.miss (h:valueAt kb kv.1 = none) (_:Hits c A s kb r b):Hits c A s kb (kv :: r) false:=.inl ⟨h, rfl⟩
theorem Hits.hit {y:Value} {e:Bool} (h:valueAt kb kv.1 = some y) (h1:EqP c A s kv.2 y e) (h2:Hits c A s kb r b):Hits c A s kb (kv :: r) (e && b):=.inr ⟨y, e, b, h, h1, h2, rfl⟩
theorem pair_step {eb:Array DictEntry} (look:∀ k, findBy (AK c).is eb k = valueAt kb k) (H:Hits c A s kb (kv :: r) b) :
  ((eb.findIdx? fun e => (AK c).is kv.1 e.key) = none ∧ b = false) ∨ ∃ j, ∃ _:j < eb.size, (eb.findIdx? fun e => (AK c).is kv.1 e.key) = some j ∧ ∃ e b', EqP c A s kv.2 eb[j].val e ∧ Hits c A s kb r b' ∧ b = (e && b'):=by
 have lk:=look kv.1
 rw [findBy_of_findIdx?] at lk
 cases hj:eb.findIdx? fun e => (AK c).is kv.1 e.key with
 | none =>
  rw [hj] at lk
  rcases H with ⟨_, h⟩ | ⟨y, _, _, h, _⟩
  ·exact .inl ⟨rfl, h⟩
  ·exact nomatch lk.trans h
 | some j =>
  obtain ⟨jl, _⟩:=Array.findIdx?_eq_some_iff_getElem.mp hj
  rw [hj] at lk
  have lk:some eb[j].val = valueAt kb kv.1:=by rw [← lk]; simp [Array.getElem?_eq_getElem jl]
  rcases H with ⟨h, _⟩ | ⟨y, e, b', h, h1, h2, h3⟩
  ·exact nomatch lk.trans h
  ·rw [← Option.some.inj (lk.trans h)] at h1
   exact .inr ⟨j, jl, rfl, e, b', h1, h2, h3⟩
end
theorem range'_cons {i m x:Nat} {rest:List Nat} (e:x :: rest = List.range' i m):x = i ∧ 0 < m ∧ rest = List.range' (i + 1) (m - 1):=by
 cases m with
 | zero => exact nomatch e
 | succ m => rw [List.range'_succ] at e; injection e with e1 e2; exact ⟨e1, Nat.succ_pos _, e2⟩
noncomputable def PairsI (c:Cfg) (A:Around) (s:Shared) (kb ka:List (Atom × Value)) (n:Nat) (r:Bool) (rest:List Nat) (q:Option Bool × Unit) (s':Shared):Prop :=
 s' = s ∧ q = (none, ()) ∧ ∃ i, rest = List.range' i (n - i) ∧ i ≤ n ∧ Hits c A s kb (ka.drop i) r
theorem PairsI.end_ {kb ka:List (Atom × Value)} {n:Nat} {r:Bool} {q:Option Bool × Unit} {s':Shared} (la:ka.length = n) (H:PairsI c A s kb ka n r [] q s'):s' = s ∧ q = (none, ()) ∧ r = true:=by
 obtain ⟨h1, h2, i, hr, hi, H⟩:=H
 have e:n - i = 0:=(List.length_range' ..).symm.trans (congrArg List.length hr).symm
 rw [List.drop_of_length_le (by rw [la]; exact Nat.le_of_sub_eq_zero e)] at H
 exact ⟨h1, h2, H⟩
theorem PairsI.step {kb ka:List (Atom × Value)} {n x:Nat} {r:Bool} {rest:List Nat} {q:Option Bool × Unit} {s':Shared} (la:ka.length = n) (H:PairsI c A s kb ka n r (x :: rest) q s') :
  s' = s ∧ q = (none, ()) ∧ ∃ lk:x < ka.length, Hits c A s kb (ka[x] :: ka.drop (x + 1)) r ∧ ∀ r', Hits c A s kb (ka.drop (x + 1)) r' → PairsI c A s kb ka n r' rest (none, ()) s:=by
 obtain ⟨h1, h2, i, hr, hi, H⟩:=H
 obtain ⟨rfl, lt, hrest⟩:=range'_cons hr
 have lk:x < ka.length:=by rw [la]; exact Nat.lt_of_sub_pos lt
 rw [List.drop_eq_getElem_cons lk] at H
 exact ⟨h1, h2, lk, H, fun r' h => ⟨rfl, rfl, x + 1, by rw [hrest]; rfl, la ▸ lk, h⟩⟩
theorem samePairs_P {nm:String} {a b:Addr} {ka kb:List (Atom × Value)} {r:Bool} {Q:Bool → Shared → Prop} (na:(a == sysModules) = false) (nb:(b == sysModules) = false)
  (da:s.heap.DictOf (AK c) a ka) (db:s.heap.DictOf (AK c) b kb) (hits:Hits c A s kb ka r) (h:Q (ka.length == kb.length && r) s) :
  wpAny (model c.prog c.w) A (Builtin.Dict.samePairs nm a b) Q E s:=by
 obtain ⟨oa, ea, pa, hoa, _, hda, hka, hpa, _⟩:=da
 obtain ⟨ob, eb, pb, hob, _, hdb, hkb, hpb, _⟩:=db
 have la:ka.length = ea.size:=hpa.length.symm.trans Array.length_toList
 have lb:kb.length = eb.size:=hpb.length.symm.trans Array.length_toList
 have look:∀ k, findBy (AK c).is eb k = valueAt kb k:=fun k => by
  rw [← hpb.find k]
  simp only [findBy, ← Array.find?_toList]
 unfold Builtin.Dict.samePairs Builtin.Dict.showsAll
 rw [if_neg (by rw [na]; exact Bool.false_ne_true), if_neg (by rw [nb]; exact Bool.false_ne_true)]
 refine wpAny_bind (wpAny_pure (wpAny_bind (wpAny_pure (wpAny_bind (wpAny_dictEntries hoa hda (wpAny_bind (wpAny_dictEntries hob hdb ?_)))))))
 rw [la, lb] at h
 by_cases z:ea.size = eb.size
 ·rw [beq_iff_eq.mpr z, Bool.true_and] at h
  rw [if_neg (by rw [z]; simp)]
  refine wpAny_bind (wpAny_dictEpoch hoa hda (wpAny_bind ?_))
  rw [Std.Legacy.Range.forIn_eq_forIn_range']
  simp only [Std.Legacy.Range.size, Nat.sub_zero, Nat.add_sub_cancel, Nat.div_one]
  refine wpAny_forIn_list _ (PairsI c A s kb ka ea.size r) _ (fun x rest q s' I => ?_) (fun q s' I => ?_) _ _ ⟨rfl, rfl, 0, rfl, Nat.zero_le _, hits⟩
  ·obtain ⟨rfl, rfl, lk, H, next⟩:=I.step la
   have lt':x < ea.size:=la ▸ lk
   obtain ⟨hkey, hval⟩:=hpa.get? (i:=x) (e:=ea[x]) (k:=ka[x].1) (v:=ka[x].2) (by rw [Array.getElem?_toList]; exact Array.getElem?_eq_getElem lt') (List.getElem?_eq_getElem lk)
   obtain ⟨key', hk', hh⟩:=hka ea[x] (Array.getElem_mem lt')
   rw [(AK c).inj _ _ _ hk' hkey] at hh
   refine wpAny_bind (wpAny_dictEntries hoa hda ?_)
   rw [Array.getElem?_eq_getElem lt']
   show wpAny _ _ (holding [ea[x].key, ea[x].val] _ >>= _) _ _ _
   rw [hh]
   refine wpAny_bind (wpAny_holding (wpAny_bind (wpAny_dictFind_of hkey hob hdb hkb ?_)))
   rcases pair_step look H with ⟨hj, rfl⟩ | ⟨j, jl, hj, e', b', eq, rest', rfl⟩
   ·rw [hj]
    refine wpAny_pure ?_
    show wpAny _ _ (if (!false) = true then _ else _) _ _ _
    rw [if_pos (by decide)]
    exact wpAny_pure (wpAny_pure h)
   ·rw [hj]
    refine wpAny_bind (wpAny_dictEntries hob hdb ?_)
    rw [Array.getElem?_eq_getElem jl]
    rw [← hval] at eq
    refine wpAny_holding (eq _ _ ?_)
    cases e' with
    | false =>
     show wpAny _ _ (if (!false) = true then _ else _) _ _ _
     rw [if_pos (by decide)]
     exact wpAny_pure (wpAny_pure h)
    | true =>
     show wpAny _ _ (if (!true) = true then _ else _) _ _ _
     rw [if_neg (by decide)]
     refine wpAny_bind (wpAny_dictEpoch hoa hda ?_)
     rw [if_neg (by simp)]
     exact wpAny_pure (next _ rest')
  ·obtain ⟨rfl, rfl, rfl⟩:=I.end_ la
   exact wpAny_pure h
 ·rw [beq_eq_false_iff_ne.mpr z, Bool.false_and] at h
  rw [if_pos (by simpa using z)]
  exact wpAny_bind (wpAny_rule (wpAny_pure h))
theorem dict_eqP {a b:Addr} {ka kb:List (Atom × Value)} {r:Bool} (na:(a == sysModules) = false) (nb:(b == sysModules) = false) (hu:A.units < cLine)
  (da:s.heap.DictOf (AK c) a ka) (db:s.heap.DictOf (AK c) b kb) (hits:Hits c A.in1 s kb ka r) (hne:a ≠ b):EqP c A s (.ref a) (.ref b) (ka.length == kb.length && r):=by
 intro E Q q
 refine eqBool_of_eq (r:=(ka.length == kb.length && r)) (by simpa using hne) (fun _ _ e => nomatch e) ?_
 show wpAny _ _ (richCompare .Eq _ _) _ _ _
 refine wpAny_richCompare_same_room (op:=.Eq) da.typeIs db.typeIs PySem.F.slot_dict_eq (wpAny_call_entry PySem.F.slot_dict_eq da.typeIs PySem.F.entry_dict_eq ?_ (PySem.F.args_dict_eq_2 _ _)) hu
 show wpAny _ _ (Builtin.Dict.dictSlotArgs "__eq__" ⟨[.ref a, .ref b], []⟩ >>= _) _ _ s
 refine wpAny_bind ?_
 unfold Builtin.Dict.dictSlotArgs
 refine wpAny_bind (wpAny_notOrdered_dict da.typeIs ?_)
 show wpAny _ _ (pure (Value.ref a, Value.ref b)) _ _ s
 refine wpAny_pure (wpAny_bind (wpAny_isInstance (T:="dict") db.typeIs PySem.F.sub_dict_dict ?_))
 simp only [Bool.not_true, Bool.false_eq_true, if_false]
 refine wpAny_bind (wpAny_pure (wpAny_bind (wpAny_pure (wpAny_bind (samePairs_P na nb da db hits ?_)))))
 exact wpAny_pure ⟨_, rfl, (fun x => nomatch x), by simpa using q⟩
theorem DictR.ones {h:Heap} {d:Addr} {es:List (Key × V)} (x:DictR c h d es) (q:∀ e ∈ es, e.1.isTp = false) :
  ∃ kvs:List (Atom × Value), h.DictOf (AK c) d kvs ∧ F2 (fun (e:Key × V) kv => e.1 = .one kv.1 ∧ VR h e.2 kv.2) es kvs:=by
 rcases x with x | ⟨xs, ⟨o, en, ep, ho, hx, hd, he, _, _⟩, f, _⟩
 ·exact x
 ·cases f with
  | nil =>
   have:en = #[]:=by apply Array.toList_inj.mp; simpa using he
   subst this
   exact ⟨[], ⟨o, #[], ep, ho, hx, hd, fun e he => by simp at he, .nil, List.nodup_nil⟩, .nil⟩
  | cons r _ => have:=q _ List.mem_cons_self; rw [r.1] at this; cases this
theorem DictR.tps {h:Heap} {d:Addr} {es:List (Key × V)} (x:DictR c h d es) (q:∀ e ∈ es, e.1.isTp = true) :
  ∃ xs:List (List Atom × Addr × Value), h.DictOfH (TK c) d xs ∧ F2 (fun (e:Key × V) x => e.1 = .tp x.1 ∧ VR h e.2 x.2.2) es xs ∧ ∀ x ∈ xs, ∃ its n, IsT h x.2.1 its n:=by
 rcases x with ⟨xs, ⟨o, en, ep, ho, hx, hd, _, he, _⟩, f⟩ | x
 ·cases f with
  | nil =>
   have:en = #[]:=by apply Array.toList_inj.mp; cases hq:en.toList with
    | nil => rfl
    | cons _ _ => rw [hq] at he; cases he
   subst this
   exact ⟨[], ⟨o, #[], ep, ho, hx, hd, rfl, fun x hx => by simp at hx, List.nodup_nil⟩, .nil, fun x hx => by simp at hx⟩
  | cons r _ => have:=q _ List.mem_cons_self; rw [r.1] at this; cases this
 ·exact x
theorem F2.valueAt {h:Heap} {es:List (Key × V)} {kvs:List (Atom × Value)} (f:F2 (fun (e:Key × V) kv => e.1 = .one kv.1 ∧ VR h e.2 kv.2) es kvs) (k:Atom) :
  match aget es (.one k) with
  | some v => ∃ val, PySem.valueAt kvs k = some val ∧ VR h v val
  | Option.none => PySem.valueAt kvs k = Option.none:=by
 induction f with
 | nil => rfl
 | @cons e kv es kvs r f ih =>
  unfold aget PySem.valueAt at ih ⊢
  simp only [List.find?_cons, r.1]
  by_cases q:kv.1 = k
  ·simp [q]; exact r.2
  ·have q':¬ Key.one kv.1 = Key.one k:=fun z => q (by cases z; rfl)
   simp only [q, q', decide_false]
   exact ih
theorem F2.atKey {h:Heap} {es:List (Key × V)} {xs:List (List Atom × Addr × Value)} (f:F2 (fun (e:Key × V) x => e.1 = .tp x.1 ∧ VR h e.2 x.2.2) es xs) (k:List Atom) :
  match aget es (.tp k) with
  | some v => ∃ a val, PySem.atKey xs k = some (a, val) ∧ VR h v val
  | Option.none => PySem.atKey xs k = Option.none:=by
 induction f with
 | nil => rfl
 | @cons e kv es kvs r f ih =>
  by_cases q:kv.1 = k
  ·have h1:aget (e :: es) (.tp k) = some e.2:=aget_cons.trans (if_pos (by rw [r.1, q]))
   have h2:PySem.atKey (kv :: kvs) k = some (kv.2.1, kv.2.2):=by simp [PySem.atKey, q]
   rw [h1]; exact ⟨_, _, h2, r.2⟩
  ·have q':¬ Key.tp kv.1 = Key.tp k:=fun z => q (by cases z; rfl)
   have h1:aget (e :: es) (.tp k) = aget es (.tp k):=aget_cons.trans (if_neg (by rw [r.1]; exact q'))
   have h2:PySem.atKey (kv :: kvs) k = PySem.atKey kvs k:=by simp [PySem.atKey, q]
   rw [h1, h2]; exact ih
theorem Ok.notSys (k:Ok c σ s.heap) (_W:CfgOk c) {a:Addr} {o:MObj} (e:σ a = some o) (m:o.mut = true):(a == sysModules) = false:=by
 have:=(k.new a (by unfold Mut; rw [e]; cases o <;> first | rfl | cases m)).2
 exact beq_eq_false_iff_ne.mpr this
theorem dicts_P (W:CfgOk c) (k:Ok c σ s.heap) (hu:A.units < cLine) {f:V → V → Option Bool} (H:∀ {u v a b r}, f u v = some r → VR s.heap u a → VR s.heap v b → EqP c A.in1 s a b r) {x y:Addr} {es fs:List (Key × V)} {r:Bool} (e1:σ x = some (.dict es)) (e2:σ y = some (.dict fs))
  (h:deqD (some f) x y es fs = some r):EqP c A s (.ref x) (.ref y) r:=by
 have h:(if x = y ∨ (fs.any fun e => e.1.isTp) = true then Option.none else (subW f fs es).map (es.length == fs.length && ·)) = some r:=h
 by_cases q:x = y ∨ (fs.any fun e => e.1.isTp) = true
 ·rw [if_pos q] at h; exact nomatch h
 rw [if_neg q] at h
 have qx:x ≠ y:=fun z => q (.inl z)
 have qf:∀ e ∈ fs, e.1.isTp = false:=fun e he => by
  cases z:e.1.isTp with
  | false => rfl
  | true => exact absurd (List.any_eq_true.mpr ⟨e, he, z⟩) fun z => q (.inr z)
 obtain ⟨b', hs, rfl⟩:=Option.map_eq_some_iff.mp h
 have step:∀ {k':Atom} {w:V} {es:List (Key × V)} {b:Bool}, subStep (.one k') (aget fs (.one k')) (f w) (subW f fs es) = some b → ∃ b2, subW f fs es = some b2 ∧ ((aget fs (.one k') = none ∧ b = false) ∨ ∃ u a, aget fs (.one k') = some u ∧ f w u = some a ∧ b = (a && b2)):=by
  intro k' w es b h
  cases ho:aget fs (.one k') with
  | none =>
   rw [ho] at h
   obtain ⟨b2, g, rfl⟩:=bd1 (f:=fun _ => false) h
   exact ⟨b2, g, .inl ⟨rfl, rfl⟩⟩
  | some u =>
   rw [ho] at h
   obtain ⟨b2, g, h⟩:=bdk h
   obtain ⟨a, g2, rfl⟩:=bd1 h
   exact ⟨b2, g, .inr ⟨u, a, rfl, g2, rfl⟩⟩
 have ones:∀ {es:List (Key × V)} {b:Bool}, subW f fs es = some b → ∀ e ∈ es, e.1.isTp = false:=by
  intro es
  induction es with
  | nil => intro b _ e he; exact nomatch he
  | cons p es ih =>
   intro b hb e he
   obtain ⟨key, w⟩:=p
   cases key with
   | tp _ => exact nomatch hb
   | one k' =>
    obtain ⟨b2, g, _⟩:=step hb
    rcases List.mem_cons.mp he with rfl | he
    ·rfl
    ·exact ih g e he
 obtain ⟨ka, da, fa⟩:=(show DictR c s.heap x es from k.obj _ _ e1).ones (ones hs)
 obtain ⟨kb, db, fb⟩:=(show DictR c s.heap y fs from k.obj _ _ e2).ones qf
 have Hh:∀ {es:List (Key × V)} {ka:List (Atom × Value)} {b:Bool}, F2 (fun (e:Key × V) kv => e.1 = .one kv.1 ∧ VR s.heap e.2 kv.2) es ka → subW f fs es = some b → Hits c A.in1 s kb ka b:=by
  intro es ka b fe
  induction fe generalizing b with
  | nil => intro z; cases z; exact .nil
  | @cons e kv es kvs re _ ih2 =>
   intro z
   obtain ⟨key, w⟩:=e
   obtain ⟨hk, hv⟩:=re
   obtain rfl:key = .one kv.1:=hk
   have lk:=fb.valueAt kv.1
   obtain ⟨b2, g, ⟨ho, rfl⟩ | ⟨u, a, ho, g2, rfl⟩⟩:=step z
   ·rw [ho] at lk; exact .miss lk (ih2 g)
   ·rw [ho] at lk
    obtain ⟨val, l1, l2⟩:=lk
    exact .hit l1 (H g2 hv l2) (ih2 g)
 rw [fa.length, fb.length]
 exact dict_eqP (k.notSys W e1 rfl) (k.notSys W e2 rfl) hu da db (Hh fa hs) qx
theorem lists_P (k:Ok c σ s.heap) (hu:A.units + 10 < cLine) {x y:Addr} {xs ys:List V} {r:Bool} (e1:σ x = some (.list xs)) (e2:σ y = some (.list ys)) (h:deqL xs ys = some r):EqP c A s (.ref x) (.ref y) r:=by
 by_cases q:x = y
 ·subst q
  rw [e1] at e2; cases e2
  obtain ⟨vs, n, h1, r1⟩:=k.obj _ _ e1
  unfold deqL at h
  rw [if_neg fun z => z rfl] at h
  rw [allW_same eqA_same h r1 r1]
  exact .of (.same _)
 ·exact .of (.of_refs q (rcL_at k hu e1 e2 h).1)
theorem deqV_P (W:CfgOk c) (k:Ok c σ s.heap):∀ {n:Nat} {A:Around} {u v:V} {a b:Value} {r:Bool}, A.units + 10 + n < cLine → deqV σ n u v = some r → VR s.heap u a → VR s.heap v b → EqP c A s a b r:=by
 have tup:∀ {A:Around} {xs ys a b r}, A.units + 10 < cLine → allW (eqA 3) xs ys = some r → VR s.heap (.tup xs) a → VR s.heap (.tup ys) b → EqP c A s a b r:=fun hu h h1 h2 => .of (tups_at (ul hu) eqA_same (fun h1 h2 h3 => eqA_at (n:=3) (ul4 hu) h1 h2 h3) h h1 h2).1
 intro n
 induction n with
 | zero =>
  intro A u v a b r hu h ha hb
  refine eqS_at (A:=A) (t:=allW (eqA 3)) (rf:=deqR σ none) (P:=EqP c A s) (ul (ul hu)) (fun h1 _ _ => .of h1) (tup (ul hu)) (fun h => ?_) h ha hb
  rcases of_deqR h with ⟨xs, ys, e1, e2, h⟩ | ⟨es, fs, _, _, h⟩
  ·exact lists_P k (ul hu) e1 e2 h
  ·exact nomatch h
 | succ n ih =>
  intro A u v a b r hu h ha hb
  refine eqS_at (A:=A) (t:=allW (eqA 3)) (rf:=deqR σ (some (deqV σ n))) (P:=EqP c A s) (ul (ul hu)) (fun h1 _ _ => .of h1) (tup (ul hu)) (fun h => ?_) h ha hb
  rcases of_deqR h with ⟨xs, ys, e1, e2, h⟩ | ⟨es, fs, e1, e2, h⟩
  ·exact lists_P k (ul hu) e1 e2 h
  ·exact dicts_P W k (ul (ul hu)) (fun h1 h2 h3 => ih (A:=A.in1) (by show A.units + 1 + 10 + n < cLine; rw [Nat.add_right_comm _ 1 10]; exact ul1 hu) h1 h2 h3) e1 e2 h
noncomputable def NeI (h:Heap) (σ:Store) (n m:Nat) (r:Bool) (rest:List (Value × Value)):Prop :=
 ∃ xs ys vs us, rest = List.zip vs us ∧ VRs h xs vs ∧ VRs h ys us ∧ deqT σ xs ys = some r ∧ (vs.length = us.length → n = m)
theorem NeI.step {h:Heap} {n m:Nat} {r:Bool} {p:Value × Value} {rest:List (Value × Value)} (H:NeI h σ n m r (p :: rest)):∃ x y a b, deqV σ 2 x y = some a ∧ VR h x p.1 ∧ VR h y p.2 ∧ NeI h σ n m b rest ∧ r = (a && b):=by
 obtain ⟨xs, ys, vs, us, hz, h1, h2, h3, hl⟩:=H
 cases xs with
 | nil => rw [show vs = [] from h1] at hz; exact nomatch hz
 | cons x xs =>
  obtain ⟨v, vs', rfl, g1, h1⟩:=h1
  cases ys with
  | nil => exact nomatch h3
  | cons y ys =>
   obtain ⟨u, us', rfl, g2, h2⟩:=h2
   obtain ⟨rfl, rfl⟩:=List.cons.inj (show p :: rest = (v, u) :: List.zip vs' us' from hz)
   obtain ⟨a, b, e1, e2, e⟩:=of_and2 h3
   exact ⟨x, y, a, b, e1, g1, g2, ⟨xs, ys, vs', us', rfl, h1, h2, e2, fun e => hl (congrArg Nat.succ e)⟩, e⟩
theorem NeI.end_ {h:Heap} {n m:Nat} {r:Bool} (H:NeI h σ n m r []):r = true ∧ n = m:=by
 obtain ⟨xs, ys, vs, us, hz, h1, h2, h3, hl⟩:=H
 cases xs with
 | nil =>
  cases ys with
  | nil =>
   rw [show vs = [] from h1, show us = [] from h2] at hl
   exact ⟨(Option.some.inj h3).symm, hl rfl⟩
  | cons y ys => exact nomatch h3
 | cons x xs =>
  cases ys with
  | nil => exact nomatch h3
  | cons y ys =>
   obtain ⟨v, vs', rfl, _, h1⟩:=h1
   obtain ⟨u, us', rfl, _, h2⟩:=h2
   exact nomatch hz
theorem r_neT (W:CfgOk c) (k:Ok c σ s.heap) {xs ys:List V} {a b:Value} {r:Bool} {Q:Value → Shared → Prop} (hu:A.units + 20 < cLine) (ha:VR s.heap (.tup xs) a) (hb:VR s.heap (.tup ys) b) (h:deqT σ xs ys = some r) (hq:Q (.bool (!r)) s) :
  wpAny (model c.prog c.w) A (compareOp .NotEq a b) Q E s:=by
 obtain ⟨x, vs, m, rfl, ht, hx⟩:=ha.shapeTup
 obtain ⟨y, us, m', rfl, ht', hy⟩:=hb.shapeTup
 show wpAny _ _ (richCompare .NotEq _ _) _ _ _
 refine wpAny_richCompare_same_room (op:=.NotEq) (T:="tuple") ⟨_, ht, rfl⟩ ⟨_, ht', rfl⟩ PySem.F.slot_tuple_ne (wpAny_call_entry PySem.F.slot_tuple_ne ⟨_, ht, rfl⟩ PySem.F.entry_tuple_ne ?_ (PySem.F.args_tuple_ne_2 _ _)) (by omega)
 show wpAny _ _ (isInstance (.ref y) (.type "tuple") >>= _) _ _ s
 refine wpAny_bind (wpAny_isInstance (T:="tuple") ⟨_, ht', rfl⟩ isSubtype_tuple_tuple ?_)
 simp only [Bool.not_true, Bool.false_eq_true, if_false]
 refine wpAny_bind (wpAny_tupleItemsOf ht rfl (wpAny_bind (wpAny_tupleItemsOf ht' rfl (wpAny_bind ?_))))
 refine wpAny_forIn_list _ (fun rest q s' => q.1 = none ∧ s' = s ∧ NeI s.heap σ vs.length us.length r rest) _ (fun p rest z s' I => ?_) (fun z s' I => ?_) _ _ ⟨rfl, rfl, xs, ys, vs, us, by simp, hx, hy, h, id⟩
 ·obtain ⟨z1, rfl, I⟩:=I
  obtain ⟨x1, y1, a1, b1, e1, g1, g2, I2, rfl⟩:=I.step
  refine wpAny_bind (deqV_P W k (Nat.lt_of_le_of_lt (Nat.add_le_add_left (by decide:13 ≤ 20) A.units) hu) e1 g1 g2 _ _ ?_)
  cases a1 with
  | false => exact wpAny_bind (wpAny_pure (wpAny_pure (wpAny_pure ⟨_, rfl, (fun e => nomatch e), hq⟩)))
  | true => exact wpAny_pure ⟨rfl, rfl, I2⟩
 ·obtain ⟨zz, rfl, I⟩:=I
  obtain ⟨rfl, hl⟩:=I.end_
  obtain ⟨z1, z2⟩:=z
  cases (show z1 = none from zz)
  have e:Builtin.Tuple.tupleCompareSizes .NotEq vs.toArray.size us.toArray.size = .bool false:=by simp [Builtin.Tuple.tupleCompareSizes, hl]
  refine wpAny_pure ⟨_, rfl, fun e => by simp [Builtin.Tuple.tupleCompareSizes] at e, ?_⟩
  rw [e]; exact hq
end
end Mini
end
section
namespace Mini
open PySem PySem.W PyProof.Rows
section
variable {h:Heap}
theorem F2.any1 {es:List (Key × V)} {kvs:List (Atom × Value)} (f:F2 (fun (e:Key × V) kv => e.1 = .one kv.1 ∧ VR h e.2 kv.2) es kvs) (k:Atom) :
  es.any (fun e => decide (e.1 = .one k)) = kvs.any fun kv => decide (kv.1 = k):=by
 induction f with
 | nil => rfl
 | @cons e kv es kvs r f ih =>
  simp only [List.any_cons, ih, r.1]
  congr 1
  by_cases q:kv.1 = k
  ·simp [q]
  ·have:¬ Key.one kv.1 = Key.one k:=fun z => q (by cases z; rfl)
   simp [q, this]
theorem F2.aset1 {es:List (Key × V)} {kvs:List (Atom × Value)} (f:F2 (fun (e:Key × V) kv => e.1 = .one kv.1 ∧ VR h e.2 kv.2) es kvs) (k:Atom) {v:V} {val:Value} (q:VR h v val) :
  F2 (fun (e:Key × V) kv => e.1 = .one kv.1 ∧ VR h e.2 kv.2) (aset es (.one k) v) (stored kvs k val):=by
 unfold aset stored
 rw [f.any1 k]
 split
 ·rename_i hh
  clear hh
  induction f with
  | nil => exact .nil
  | @cons e kv es kvs r f ih =>
   refine .cons ?_ ih
   dsimp only
   by_cases z:kv.1 = k
   ·rw [if_pos (r.1.trans (by rw [z])), if_pos z]; exact ⟨r.1, q⟩
   ·have:¬ e.1 = Key.one k:=fun y => z (by rw [r.1] at y; cases y; rfl)
    rw [if_neg this, if_neg z]; exact r
 ·exact f.snoc ⟨rfl, q⟩
theorem F2.anyH {es:List (Key × V)} {xs:List (List Atom × Addr × Value)} (f:F2 (fun (e:Key × V) x => e.1 = .tp x.1 ∧ VR h e.2 x.2.2) es xs) (k:List Atom) :
  es.any (fun e => decide (e.1 = .tp k)) = (PySem.atKey xs k).isSome:=by
 induction f with
 | nil => rfl
 | @cons e kv es kvs r f ih =>
  by_cases q:kv.1 = k
  ·simp [r.1, q, PySem.atKey]
  ·have z:¬ Key.tp kv.1 = Key.tp k:=fun z => q (by cases z; rfl)
   simp only [List.any_cons, r.1, z, decide_false, Bool.false_or, ih]
   simp [PySem.atKey, q]
theorem F2.asetH {es:List (Key × V)} {xs:List (List Atom × Addr × Value)} (f:F2 (fun (e:Key × V) x => e.1 = .tp x.1 ∧ VR h e.2 x.2.2) es xs) (k:List Atom) (a:Addr) {v:V} {val:Value} (q:VR h v val) :
  F2 (fun (e:Key × V) x => e.1 = .tp x.1 ∧ VR h e.2 x.2.2) (aset es (.tp k) v) (storedH xs k a val):=by
 unfold aset storedH
 rw [f.anyH k]
 split
 ·rename_i hh
  clear hh
  induction f with
  | nil => exact .nil
  | @cons e kv es kvs r f ih =>
   refine .cons ?_ ih
   unfold putAt
   dsimp only
   by_cases z:kv.1 = k
   ·rw [if_pos (r.1.trans (by rw [z])), if_pos z]; exact ⟨r.1, q⟩
   ·have:¬ e.1 = Key.tp k:=fun y => z (by rw [r.1] at y; cases y; rfl)
    rw [if_neg this, if_neg z]; exact r
 ·exact f.snoc ⟨rfl, q⟩
end
section
variable {c:Cfg} {A:Around} {E:Value → Shared → Prop} {s:Shared} {σ:Store} {Q:V → Store → Prop} {Q':Value → Shared → Prop}
theorem isInt_self {i:Int} {t:Tok}:Value.isInt i (.int i t) = true:=beq_self_eq_true i
theorem isStr_self {x:Str} {t:Tok}:Value.isStrOf x (.str x t) = true:=beq_self_eq_true x
theorem atom_one {h:Heap} {v:V} {val:Value} {k:Atom} (r:VR h v val) (e:v.atom? = some k):(AK c).is k val = true:=by
 cases v with
 | int i => cases e; obtain ⟨t, rfl⟩:=r; exact isInt_self (t:=t)
 | str x => cases e; obtain ⟨t, rfl⟩:=r; exact isStr_self (t:=t)
 | _ => exact nomatch e
theorem key_tup {xs:List V} {k:Key} (e:(V.tup xs).key? = some k):∃ l, atoms? xs = some l ∧ k = .tp l:=by
 have e:(match atoms? xs with | some l => some (Key.tp l) | none => none) = some k:=e
 cases q:atoms? xs with
 | none => rw [q] at e; exact nomatch e
 | some l => rw [q] at e; exact ⟨l, rfl, (Option.some.inj e).symm⟩
theorem key_one {h:Heap} {v:V} {val:Value} {k:Atom} (r:VR h v val) (e:v.key? = some (.one k)):(AK c).is k val = true:=by
 cases v with
 | int i => cases e; obtain ⟨t, rfl⟩:=r; exact isInt_self (t:=t)
 | str x => cases e; obtain ⟨t, rfl⟩:=r; exact isStr_self (t:=t)
 | tup xs => obtain ⟨l, _, z⟩:=key_tup e; exact nomatch z
 | _ => exact nomatch e
theorem atoms_cons {x:V} {xs:List V} {z:List Atom} (e:atoms? (x :: xs) = some z):∃ a l, x.atom? = some a ∧ atoms? xs = some l ∧ z = a :: l:=by
 have e:(match x.atom?, atoms? xs with | some a, some l => some (a :: l) | _, _ => none) = some z:=e
 cases q:x.atom? with
 | none => rw [q] at e; exact nomatch e
 | some a =>
  cases q2:atoms? xs with
  | none => rw [q, q2] at e; exact nomatch e
  | some l => rw [q, q2] at e; exact ⟨a, l, rfl, rfl, (Option.some.inj e).symm⟩
theorem atoms_are {h:Heap}:∀ {xs:List V} {l:List Atom} {vs:List Value}, atoms? xs = some l → VRs h xs vs → ItemsAre (AK c) l vs:=by
 intro xs
 induction xs with
 | nil => intro l vs e r; cases e; cases (show vs = [] from r); exact .nil
 | cons x xs ih =>
  intro l vs e r
  obtain ⟨v, vs, rfl, h1, h2⟩:=r
  obtain ⟨a, l', e1, e2, rfl⟩:=atoms_cons e
  exact .cons (atom_one h1 e1) (ih e2 h2)
theorem key_tp {h:Heap} {v:V} {val:Value} {k:List Atom} (r:VR h v val) (e:v.key? = some (.tp k)):∃ a, val = .ref a ∧ (TK c).is h k a ∧ ∃ its n, IsT h a its n:=by
 cases v with
 | tup xs =>
  obtain ⟨l, e1, z⟩:=key_tup e
  cases z
  obtain ⟨a, vs, n, rfl, ht, hx⟩:=r.shapeTup
  exact ⟨a, rfl, ⟨_, _, n, ht, rfl, rfl, atoms_are e1 hx⟩, _, _, ht⟩
 | _ => exact nomatch e
theorem mapOf_lookR {d:Addr} {es:List (Key × V)} (D:DictR c s.heap d es) {key:Key} (one:∀ e ∈ es, e.1.isTp = key.isTp) {i:V} {iv:Value} (ri:VR s.heap i iv) (hk:i.key? = some key) :
  (∃ (a:Atom) (kvs:List (Atom × Value)), key = .one a ∧ (AK c).is a iv = true ∧ s.heap.DictOf (AK c) d kvs ∧ F2 (fun (e:Key × V) kv => e.1 = .one kv.1 ∧ VR s.heap e.2 kv.2) es kvs) ∨
  ∃ (l:List Atom) (a:Addr) (xs:List (List Atom × Addr × Value)), key = .tp l ∧ iv = .ref a ∧ (TK c).is s.heap l a ∧ s.heap.DictOfH (TK c) d xs ∧ F2 (fun (e:Key × V) x => e.1 = .tp x.1 ∧ VR s.heap e.2 x.2.2) es xs ∧ (∀ x ∈ xs, ∃ its n, IsT s.heap x.2.1 its n) ∧ ∃ its n, IsT s.heap a its n:=by
 cases key with
 | one a =>
  obtain ⟨kvs, h1, h2⟩:=D.ones one
  exact .inl ⟨a, kvs, rfl, key_one ri hk, h1, h2⟩
 | tp l =>
  obtain ⟨xs, h1, h2, h4⟩:=D.tps one
  obtain ⟨a, rfl, h3, h5⟩:=key_tp ri hk
  exact .inr ⟨l, a, xs, rfl, rfl, h3, h1, h2, h4, h5⟩
theorem mapOf_look {d:Addr} {es:List (Key × V)} (k:Ok c σ s.heap) (e:σ d = some (.dict es)) {key:Key} (one:∀ e ∈ es, e.1.isTp = key.isTp) {i:V} {iv:Value} (ri:VR s.heap i iv) (hk:i.key? = some key) :
  (∃ (a:Atom) (kvs:List (Atom × Value)), key = .one a ∧ (AK c).is a iv = true ∧ s.heap.DictOf (AK c) d kvs ∧ F2 (fun (e:Key × V) kv => e.1 = .one kv.1 ∧ VR s.heap e.2 kv.2) es kvs) ∨
  ∃ (l:List Atom) (a:Addr) (xs:List (List Atom × Addr × Value)), key = .tp l ∧ iv = .ref a ∧ (TK c).is s.heap l a ∧ s.heap.DictOfH (TK c) d xs ∧ F2 (fun (e:Key × V) x => e.1 = .tp x.1 ∧ VR s.heap e.2 x.2.2) es xs ∧ (∀ x ∈ xs, ∃ its n, IsT s.heap x.2.1 its n) ∧ ∃ its n, IsT s.heap a its n :=
 mapOf_lookR (k.obj _ _ e) one ri hk
theorem strs_cons {y:V} {ys:List V} {z:List Str} (e:strsOf (y :: ys) = some z):∃ x ss, y = .str x ∧ strsOf ys = some ss ∧ z = x :: ss:=by
 cases y with
 | str x => obtain ⟨ss, e', q⟩:=Option.map_eq_some_iff.mp e; exact ⟨x, ss, rfl, e', q.symm⟩
 | _ => exact nomatch e
theorem beq_swap {α:Type} [DecidableEq α] {x y:α}:(x == y) = (y == x):=by
 by_cases q:x = y
 ·rw [q]
 ·rw [beq_eq_false_iff_ne.mpr q, beq_eq_false_iff_ne.mpr fun e => q e.symm]
theorem strs_any {h:Heap} {t:Str}:∀ {ys:List V} {ss:List Str} {vs:List Value}, strsOf ys = some ss → VRs h ys vs →
  (∀ y ∈ vs, ∃ x u, y = .str x u) ∧ vs.any (Value.isStrOf t) = ss.contains t:=by
 intro ys
 induction ys with
 | nil => intro ss vs e r; cases e; cases (show vs = [] from r); exact ⟨fun y hy => (nomatch hy), rfl⟩
 | cons y ys ih =>
  intro ss vs e r
  obtain ⟨v, vs, rfl, h1, h2⟩:=r
  obtain ⟨x, ss', rfl, e', rfl⟩:=strs_cons e
  obtain ⟨q1, q2⟩:=ih e' h2
  obtain ⟨u, rfl⟩:=h1
  refine ⟨fun y hy => ?_, ?_⟩
  ·rcases List.mem_cons.mp hy with rfl | hy
   ·exact ⟨_, _, rfl⟩
   ·exact q1 y hy
  ·rw [List.any_cons, List.contains_cons, q2]
   exact congrArg (· || _) (beq_swap (x:=x) (y:=t))
theorem notIn_of_in {M:Model} {x cv:Value} {r:Bool} {s1:Shared} {Q:Value → Shared → Prop} (h:∀ Q, Q (.bool r) s1 → wpAny M A (compareOp .In x cv) Q E s) (q:Q (.bool (!r)) s1) :
  wpAny M A (compareOp .NotIn x cv) Q E s:=by
 have h':wpAny M A (contains cv x) (fun b s' => b = r ∧ s' = s1) E s:=fun Γ p hΓ => by
  have:=h (fun v s' => ∀ b, v = .bool b → b = r ∧ s' = s1) (by rintro b e; cases e; exact ⟨rfl, rfl⟩) Γ p hΓ
  rw [show compareOp .In x cv = (contains cv x >>= fun b => pure (.bool b)) from rfl, Sem.wp_bind'] at this
  exact Sem.wp_mono _ _ _ (fun b p s q => q b rfl) (fun _ _ _ e => e) _ _ this
 show wpAny M A (contains cv x >>= fun b => pure (.bool (!b))) Q E s
 refine wpAny_bind (wpAny_mono h' (fun b s' q' => ?_) fun _ _ e => e)
 obtain ⟨rfl, rfl⟩:=q'
 exact wpAny_pure q
theorem beq_cps {z t:Str}:(z == t) = (z.cps.toList == t.cps.toList):=by
 by_cases q:z = t
 ·rw [q, beq_self_eq_true, beq_self_eq_true]
 ·rw [beq_eq_false_iff_ne.mpr q]
  refine (beq_eq_false_iff_ne.mpr fun w => q ?_).symm
  cases z; cases t
  exact congrArg Str.mk (Array.toList_inj.mp w)
theorem r_in {neg:Bool} {n:Nat} {x cv:V} {a b:Value} {Qb:Bool → Prop} {Q':Value → Shared → Prop} (W:CfgOk c) (hA:AOk A n) (k:Ok c σ s.heap) (ha:VR s.heap x a) (hb:VR s.heap cv b) (h:isIn σ x cv Qb)
  (P:∀ r tk, Qb r → Q' (.bool (if neg then !r else r)) { s with toks:=tk }):wpAny (model c.prog c.w) A (compareOp (if neg then .NotIn else .In) a b) Q' E s:=by
 have seq:∀ {ys:List V} {vs:List Value} {t:Str} {ss:List Str}, x = .str t → strsOf ys = some ss → VRs s.heap ys vs → (∀ y ∈ vs, MeetsSeq.EqGives y a (Value.isStrOf t y)) ∧ vs.toArray.any (Value.isStrOf t) = ss.contains t:=by
  intro ys vs t ss e1 e2 r
  subst e1
  obtain ⟨q1, q2⟩:=strs_any (t:=t) e2 r
  obtain ⟨u, rfl⟩:=ha
  refine ⟨fun y hy => ?_, (List.any_toArray ..).trans q2⟩
  obtain ⟨z, u', rfl⟩:=q1 y hy
  have:Value.isStrOf t (.str z u') = (z.cps.toList == t.cps.toList):=beq_cps
  rw [this]
  exact SeqRoads2.EqGives.str z t u' u
 cases cv with
 | tup ys =>
  obtain ⟨t, ss, e1, e2, hq⟩:=h
  obtain ⟨y, vs, m, rfl, ht, hx⟩:=hb.shapeTup
  obtain ⟨q1, q2⟩:=seq e1 e2 hx
  have:=P _ s.toks hq
  cases neg with
  | false => exact SeqRoads2.in_tuple _ (fun y hy => q1 y (Array.mem_def.mp hy)) ht (by rw [q2]; exact this)
  | true => exact SeqRoads2.notIn_tuple _ (fun y hy => q1 y (Array.mem_def.mp hy)) ht (by rw [q2]; exact this)
 | ref d =>
  cases hb
  unfold isIn at h
  dsimp only at h
  rcases mobj (σ d) with e | ⟨ys, e⟩ | ⟨es, e⟩ | ⟨_, e⟩ | ⟨_, e⟩ | ⟨_, e⟩ | ⟨_, e⟩ <;> rw [e] at h
  ·exact False.elim h
  ·obtain ⟨t, ss, e1, e2, hq⟩:=h
   obtain ⟨vs, m, ht, hx⟩:=k.obj _ _ e
   obtain ⟨q1, q2⟩:=seq e1 e2 hx
   have:=P _ s.toks hq
   cases neg with
   | false => exact SeqRoads2.in_list _ (fun y hy => q1 y (Array.mem_def.mp hy)) ht (by rw [q2]; exact this)
   | true => exact SeqRoads2.notIn_list _ (fun y hy => q1 y (Array.mem_def.mp hy)) ht (by rw [q2]; exact this)
  ·obtain ⟨key, hk, one, hq⟩:=h
   rcases mapOf_look k e one ha hk with ⟨at', kvs, rfl, h1, h2, h3⟩ | ⟨l, ad, xs, rfl, rfl, h1, h2, h3, h4, h5⟩
   ·have lk:=h3.valueAt at'
    have eq:(valueAt kvs at').isSome = (aget es (Key.one at')).isSome:=by
     cases z:aget es (Key.one at') with
     | none => rw [z] at lk; rw [lk]; rfl
     | some v => rw [z] at lk; obtain ⟨val, l1, _⟩:=lk; rw [l1]; rfl
    have M:=h2.mapOf
    have:=P _ (s.toks + 1) hq
    rw [← eq] at this
    cases neg with
    | false => exact wpAny_in_of h1 (k.notSys W e rfl) M this
    | true => exact wpAny_notIn_of h1 (k.notSys W e rfl) M this
   ·have lk:=h3.atKey l
    have eq:(atKey xs l).isSome = (aget es (Key.tp l)).isSome:=by
     cases z:aget es (Key.tp l) with
     | none => rw [z] at lk; rw [lk]; rfl
     | some v => rw [z] at lk; obtain ⟨_, _, l1, _⟩:=lk; rw [l1]; rfl
    have:=P _ (s.toks + (TK c).draws l) hq
    rw [← eq] at this
    cases neg with
    | false => exact wpAny_in_heap hA.units1 h1 (k.notSys W e rfl) h2 this
    | true => exact notIn_of_in (fun Q q => wpAny_in_heap hA.units1 h1 (k.notSys W e rfl) h2 q) this
  all_goals exact False.elim h
 | _ => exact False.elim h
end
end Mini
end
section
namespace Mini
open PySem PySem.W PyProof.Rows
section
variable {c:Cfg} {A:Around} {E:Value → Shared → Prop} {s:Shared} {σ:Store} {Q:V → Store → Prop} {Q':Value → Shared → Prop}
theorem VR.isNone {h:Heap} {v:V} {a:Value} (e:VR h v a):(a == .none) = v.isNone:=by
 cases v with
 | none => cases e; rfl
 | bool b => cases e; rfl
 | int i => obtain ⟨t, rfl⟩:=e; rfl
 | str i => obtain ⟨t, rfl⟩:=e; rfl
 | tup xs => obtain ⟨_, _, _, rfl, _⟩:=e.shapeTup; rfl
 | ref x => cases e; rfl
theorem AOk.u20 {n:Nat} (h:AOk A n):A.units + 20 < cLine:=by have:=h.2.2; show A.units + 20 < 9900; omega
theorem AOk.u10 {n:Nat} (h:AOk A n):A.units + 10 < cLine:=ul (n:=10) h.u20
theorem r_cmp {n:Nat} {op:CmpOp} {u v:V} {a b:Value} {Qb:Bool → Prop} (W:CfgOk c) (hA:AOk A n) (k:Ok c σ s.heap) (ha:VR s.heap u a) (hb:VR s.heap v b) (h:cmpOp op u v σ Qb)
  (P:∀ r tk, Qb r → Q' (.bool r) { s with toks:=tk }):wpAny (model c.prog c.w) A (compareOp op a b) Q' E s:=by
 have nums:∀ {f:Int → Int → Prop} {G:Prop}, (u.int1 fun i => v.int1 fun j => f i j) → (∀ i t j t', a = .int i t → b = .int j t' → f i j → G) → G:=by
  intro f G h g
  obtain ⟨i, rfl, h1⟩:=V.of_int1 h
  obtain ⟨j, rfl, h2⟩:=V.of_int1 h1
  obtain ⟨t, e⟩:=ha
  obtain ⟨t', e'⟩:=hb
  exact g i t j t' e e' h2
 cases op with
 | Eq => obtain ⟨r, e, q⟩:=h; exact r_eq k hA.u10 ha hb e (P _ s.toks q)
 | NotEq =>
  rcases h with ⟨r, e, q⟩ | ⟨xs, ys, r, rfl, rfl, e, q⟩
  ·exact r_ne0 k hA.u10 ha hb e (P _ s.toks q)
  ·exact r_neT W k hA.u20 ha hb e (P _ s.toks q)
 | Lt => exact nums h fun i t j t' e e' h => by subst e e'; exact lt_int (P _ s.toks h)
 | LtE => exact nums h fun i t j t' e e' h => by subst e e'; exact le_int (P _ s.toks h)
 | Gt => exact nums h fun i t j t' e e' h => by subst e e'; exact gt_int (P _ s.toks h)
 | GtE => exact nums h fun i t j t' e e' h => by subst e e'; exact ge_int (P _ s.toks h)
 | Is =>
  obtain ⟨rfl, h⟩:=V.of_none1 h
  cases hb
  refine is_none_gen ?_
  rw [ha.isNone]; exact P _ s.toks h
 | IsNot =>
  obtain ⟨rfl, h'⟩:=V.of_none1 h
  cases hb
  cases q:u.isNone with
  | true =>
   have:a = .none:=by have:=ha.isNone; rw [q] at this; exact eq_of_beq this
   subst this
   rw [q] at h'
   exact isnot_none_none (P _ s.toks h')
  | false =>
   have:a ≠ .none:=by intro z; have:=ha.isNone; rw [q, z] at this; exact nomatch this
   rw [q] at h'
   exact isnot_none_ne this (P _ s.toks h')
 | In => exact r_in (neg:=false) W hA k ha hb h P
 | NotIn => exact r_in (neg:=true) (Qb:=fun r => Qb (!r)) W hA k ha hb h (fun r tk q => P _ tk q)
theorem pyIdx_some {n:Nat} {i:Int} {j:Nat} (h:pyIdx n i = some j):0 ≤ i ∧ i < n ∧ i < 2 ^ 62 ∧ j = i.toNat:=by
 unfold pyIdx at h
 by_cases q:0 ≤ i ∧ i < n ∧ i < 2 ^ 62
 ·rw [if_pos q] at h; exact ⟨q.1, q.2.1, q.2.2, (Option.some.inj h).symm⟩
 ·rw [if_neg q] at h; exact nomatch h
theorem lt63 {i:Int} (h:i < 2 ^ 62):i < 2 ^ 63:=by omega
theorem seqIndex_of {n:Nat} {i:Int} {j:Nat} (h:pyIdx n i = some j):seqIndex? i n = some j:=by
 obtain ⟨h1, h2, _, rfl⟩:=pyIdx_some h
 unfold seqIndex?
 have:¬ i < 0:=by omega
 simp [this, h2]
theorem not_slice {slice:PySem.Expr} {a b:Value} (hs:notSlice slice = true):subscripted slice false a b = operate [a, b] (getItem a b):=by
 unfold subscripted
 cases slice <;> first | rfl | exact absurd hs Bool.false_ne_true
theorem r_sub {n:Nat} {value slice:PySem.Expr} {u v:V} {a b:Value} (W:CfgOk c) (hA:AOk A n) (hs:notSlice slice = true) (k:Ok c σ s.heap) (ha:VR s.heap u a) (hb:VR s.heap v b) (h:getItemW u v σ Q) (P:PostV c s σ Q Q') :
  wpAny (model c.prog c.w) A (subscriptTail value slice a b) Q' E s:=by
 have hsub:∀ a, subscripted slice false a b = operate [a, b] (getItem a b):=fun a => not_slice hs
 cases u with
 | tup xs =>
  obtain ⟨i, rfl, j, y, e1, e2, hq⟩:=V.of_int1 (show v.int1 _ from h)
  obtain ⟨x, vs, m, rfl, ht, hx⟩:=ha.shapeTup
  obtain ⟨t, rfl⟩:=hb
  obtain ⟨val, g1, g2⟩:=hx.get e2
  have ix:=seqIndex_of e1
  obtain ⟨i0, i1, i2, rfl⟩:=pyIdx_some e1
  exact tail_any (T:="tuple") ⟨_, ht, rfl⟩ PySem.F.slot_tuple_getitem.lookup (PySem.P.getItem_tuple ht (Int.le_trans (by decide) i0) (lt63 i2) (by rw [List.size_toArray, ← hx.length]; exact ix) ((List.getElem?_toArray ..).trans g1) (PostV.here P k g2 hq)) (hsub _)
 | str x =>
  obtain ⟨i, rfl, e1, hq⟩:=V.of_int1 (show v.int1 _ from h)
  obtain ⟨t, rfl⟩:=ha
  obtain ⟨t', rfl⟩:=hb
  obtain ⟨q1, q2⟩:=Bool.and_eq_true_iff.mp e1
  obtain ⟨T, id, l1, l2, l3⟩:=SB.item (A:=A) (E:=E) (prog:=c.prog) (w:=c.w) (t:=t) (u:=t') (Q:=Q') q1 q2 (P.same k (.str _ _ _) hq _)
  exact tail_any l2 l1 l3 (hsub _)
 | ref x =>
  cases ha
  have look:∀ {es:List (Key × V)}, DictR c s.heap x es → (∃ kk v_1, v.key? = some kk ∧ (∀ e ∈ es, e.1.isTp = kk.isTp) ∧ aget es kk = some v_1 ∧ Q v_1 σ) →
    wpAny (model c.prog c.w) A (subscriptTail value slice (.ref x) b) Q' E s:=by
   intro es D h
   obtain ⟨key, y, hk, one, e2, hq⟩:=h
   rcases mapOf_lookR D one hb hk with ⟨at', kvs, rfl, h1, h2, h3⟩ | ⟨l, ad, xs, rfl, rfl, h1, h2, h3, h4, h5⟩
   ·have lk:=h3.valueAt at'
    rw [e2] at lk
    obtain ⟨val, l1, l2⟩:=lk
    exact tail_any h2.typeIs slot_dict_getitem.lookup (wpAny_getItem_of h1 h2.mapOf l1 (P.same k l2 hq _)) (hsub _)
   ·have lk:=h3.atKey l
    rw [e2] at lk
    obtain ⟨_, val, l1, l2⟩:=lk
    exact tail_any h2.typeIs slot_dict_getitem.lookup (wpAny_getItem_heap hA.units1 h1 h2 l1 (P.same k l2 hq _)) (hsub _)
  unfold getItemW at h
  dsimp only at h
  rcases mobj (σ x) with e | ⟨xs, e⟩ | ⟨es, e⟩ | ⟨_, e⟩ | ⟨_, e⟩ | ⟨_, e⟩ | ⟨es, e⟩ <;> rw [e] at h
  ·exact False.elim h
  ·obtain ⟨i, j, y, rfl, e1, e2, hq⟩:=h
   obtain ⟨vs, m, ht, hx⟩:=k.obj _ _ e
   obtain ⟨t, rfl⟩:=hb
   obtain ⟨val, g1, g2⟩:=hx.get e2
   obtain ⟨i0, i1, i2, rfl⟩:=pyIdx_some e1
   exact tail_any (T:="list") ⟨_, ht, rfl⟩ PySem.F.slot_list_getitem.lookup (wpAny_getItem_list ht.isList i0 (lt63 i2) ((List.getElem?_toArray ..).trans g1) (P.here k g2 hq)) (hsub _)
  ·exact look (k.obj _ _ e) h
  ·exact False.elim h
  ·exact False.elim h
  ·exact False.elim h
  ·exact look (k.obj _ _ e) h
 | _ => exact False.elim h
theorem sz100k {n:Nat} (h:n ≤ 100000):n ≤ sizeLine:=by rw [sizeLine_eq]; omega
theorem r_slice {value lo hi:Option PySem.Expr} {base:PySem.Expr} {pos:Pos} {u l r:V} {a lv hv:Value} (k:Ok c σ s.heap) (ha:VR s.heap u a) (hl:VR s.heap l lv) (hr:VR s.heap r hv) (h:sliceW u l r σ Q) (P:PostV c s σ Q Q') :
  wpAny (model c.prog c.w) A (newFields "slice" [lv, hv, .none]) (fun sl s' => wpAny (model c.prog c.w) A (subscriptTail base (.Slice lo hi Option.none pos) a sl) Q' E s') E s:=by
 have hp:∀ b o, s.heap.get? b = some o → (s.heap.push { cls:=.type "slice", data:=.fields #[lv, hv, .none] }).get? b = some o:=fun b o e => Heap.get?_push_of_some _ e
 have k1:=(Go.grow k hp (size_push _ _)).ok
 have isS:(s.heap.push { cls:=.type "slice", data:=.fields #[lv, hv, .none] }).IsSliceOf s.heap.objs.size lv hv .none:=Heap.IsSliceOf.new _ _ _ _
 unfold newFields
 refine wpAny_newObj_type ?_
 have hsub:∀ i, subscripted (.Slice lo hi Option.none pos) false a i = operate [i, a] (getItem a i):=fun _ => rfl
 have P1:PostV c { s with heap:=s.heap.push { cls:=.type "slice", data:=.fields #[lv, hv, .none] } } σ Q Q':=fun v σ' val h' tk' g r q =>
  P v σ' val h' tk' ((Go.grow k hp (size_push _ _)).trans g) r q
 cases u with
 | tup xs =>
  obtain ⟨_, rfl, h⟩:=V.of_int1 (show l.int1 _ from h)
  obtain ⟨n, rfl, h⟩:=of_nat1 h
  obtain ⟨rfl, n1, n2, n3, hq⟩:=V.of_none1 h
  obtain ⟨x, vs, m, rfl, ht, hx⟩:=ha.shapeTup
  obtain ⟨t, rfl⟩:=hl
  cases hr
  have ht':=hp _ _ ht
  have len:vs.toArray.size = xs.length:=hx.length.symm
  refine tail_any (T:="tuple") ⟨_, ht', rfl⟩ PySem.F.slot_tuple_getitem.lookup (getItem_tuple_from (a:=n) (u:=t) ⟨_, ht', rfl, m, rfl⟩ isS n1 (by rw [len]; exact n2) ?_ (by rw [len]; exact sz1000 n3)) (hsub _)
  exact P1 (.tup (xs.drop n)) σ _ _ _ (Go.grow k1 (fun b o e => Heap.get?_push_of_some _ e) (size_push _ _)) ⟨_, vs.drop n, 0, rfl, IsT.new _ _, ((hx.keep (.all hp)).keep (.all fun b o e => Heap.get?_push_of_some _ e)).drop n⟩ hq
 | str x =>
  obtain ⟨t, rfl⟩:=ha
  cases l with
  | int i =>
   obtain ⟨rfl, n1, hq⟩:=V.of_none1 (show r.none1 _ from h)
   obtain ⟨t', rfl⟩:=hl
   cases hr
   obtain ⟨T, id, l1, l2, l3⟩:=SBH.sliceItem_sn (prog:=c.prog) (w:=c.w) (A:=A) (E:=E) (s:=s) (t:=t) (ui:=t') (Q:=Q') (P:=fun h' => (∀ b o, s.heap.get? b = some o → h'.get? b = some o) ∧ s.heap.objs.size ≤ h'.objs.size)
    (fun h ob q => ⟨fun b o e => Heap.get?_push_of_some _ (q.1 b o e), Nat.le_trans q.2 (size_push _ _)⟩) ⟨fun _ _ e => e, Nat.le_refl _⟩ (x:=x) (i:=i)
    (fun h' t' tk q => P _ σ _ h' tk (Go.grow k q.1 q.2) (.str _ _ _) hq) (sz1000 n1)
   exact tail_any l2 l1 l3 (hsub _)
  | none =>
   obtain ⟨i, rfl, n1, hq⟩:=V.of_int1 (show r.int1 _ from h)
   obtain ⟨t', rfl⟩:=hr
   cases hl
   obtain ⟨T, id, l1, l2, l3⟩:=SBH.sliceItem_ns (prog:=c.prog) (w:=c.w) (A:=A) (E:=E) (s:=s) (t:=t) (uj:=t') (Q:=Q') (P:=fun h' => (∀ b o, s.heap.get? b = some o → h'.get? b = some o) ∧ s.heap.objs.size ≤ h'.objs.size)
    (fun h ob q => ⟨fun b o e => Heap.get?_push_of_some _ (q.1 b o e), Nat.le_trans q.2 (size_push _ _)⟩) ⟨fun _ _ e => e, Nat.le_refl _⟩ (x:=x) (j:=i)
    (fun h' t' tk q => P _ σ _ h' tk (Go.grow k q.1 q.2) (.str _ _ _) hq) (sz1000 n1)
   exact tail_any l2 l1 l3 (hsub _)
  | _ => exact False.elim h
 | ref x =>
  obtain ⟨rfl, h⟩:=V.of_none1 (show l.none1 _ from h)
  obtain ⟨_, rfl, h⟩:=V.of_int1 h
  obtain ⟨n, rfl, n1, h⟩:=of_nat1 h
  obtain ⟨t, rfl⟩:=hr
  cases hl
  cases ha
  have go:∀ {xs:List V} {vs:List Value}, (s.heap.push { cls:=.type "slice", data:=.fields #[.none, .int (Int.ofNat n) t, .none] }).IsList x vs.toArray → VRs s.heap xs vs → xs.length ≤ 100000 → newObj σ (.list (xs.take n)) Q →
    wpAny (model c.prog c.w) A (subscriptTail base (.Slice lo hi Option.none pos) (.ref x) (.ref s.heap.objs.size)) Q' E { s with heap:=s.heap.push { cls:=.type "slice", data:=.fields #[.none, .int (Int.ofNat n) t, .none] } }:=by
   intro xs vs hL hx len hq
   have e:=slicePick_upto' vs.toArray n
   refine tail_any hL.typeIs PySem.F.slot_list_getitem.lookup (wpAny_getItem_list_slice hL isS .none (.int _ _) .none (by simp) ?_ (by rw [List.size_toArray, ← hx.length]; exact sz100k len)) (hsub _)
   rw [show (some (Int.ofNat n):Option Int) = some (n:Int) from rfl, e]
   exact PostV.new P1 k1 hq (listR _ (by simpa using (hx.keep (.all hp)).take n)) _
  rcases h with ⟨xs, e, len, hq⟩ | ⟨xs, e, len, hq⟩
  ·obtain ⟨vs, m, ht, hx⟩:=k.obj _ _ e
   exact go (IsL.isList (hp _ _ ht)) hx len hq
  ·obtain ⟨vs, ⟨o, ho, r1, r2⟩, hx⟩:=k.obj _ _ e
   exact go ⟨o, hp _ _ ho, r1, r2⟩ hx len hq
 | _ => exact False.elim h
end
end Mini
end
section
namespace Mini
open PySem PySem.W PyProof.Rows
noncomputable def PostU (c:Cfg) (s:Shared) (σ:Store) (Q:Store → Prop) (Q':Unit → Shared → Prop):Prop :=
 ∀ σ' h' tk', Go c σ s.heap σ' h' → Q σ' → Q' () { s with heap:=h', toks:=tk' }
section
variable {c:Cfg} {A:Around} {E:Value → Shared → Prop} {s:Shared} {σ:Store} {Q:V → Store → Prop} {Q':Value → Shared → Prop} {Qu:Store → Prop} {Qu':Unit → Shared → Prop}
theorem Ok.kin (k:Ok c σ s.heap) (W:CfgOk c):c.K.In s.heap:=W.kin.keeps k.base
theorem Ok.tupsBut (k:Ok c σ s.heap) {a:Addr} {o:MObj} (e:σ a = some o) {h':Heap} (hs:Heap.SameBut a s.heap h'):TupKeep s.heap h' :=
 fun b ob q z _ => (hs.2 b (fun y => by subst y; exact (k.obj b o e).notTup q z)).trans q
theorem go_list (k:Ok c σ s.heap) {x:Addr} {xs ys:List V} {vs ws:List Value} {n:Nat} {f:Array Value → Array Value} (e:σ x = some (.list xs)) (ht:IsL s.heap x vs.toArray n) (hf:f vs.toArray = ws.toArray) (hx:VRs s.heap ys ws) :
  Go c σ s.heap (σ.set x (.list ys)) (s.heap.update x (Obj.mapSeq f)):=by
 have hs:=Heap.SameBut.update s.heap x (Obj.mapSeq f)
 have q:∃ m, IsL (s.heap.update x (Obj.mapSeq f)) x ws.toArray m:=⟨_, by rw [← hf]; exact Heap.get?_update_self (Obj.mapSeq f) ht rfl⟩
 obtain ⟨m, q⟩:=q
 exact Go.put k e rfl hs ⟨ws, m, q, hx.keep (k.tupsBut e hs)⟩
theorem r_setItem {n:Nat} {o i v:V} {a b val:Value} (W:CfgOk c) (hA:AOk A n) (k:Ok c σ s.heap) (ha:VR s.heap o a) (hb:VR s.heap i b) (hv:VR s.heap v val) (h:setItemW o i v σ Qu) (P:PostU c s σ Qu Qu') :
  wpAny (model c.prog c.w) A (setItem a b val) Qu' E s:=by
 cases o with
 | ref x =>
  cases ha
  unfold setItemW at h
  dsimp only at h
  rcases mobj (σ x) with e | ⟨xs, e⟩ | ⟨es, e⟩ | ⟨_, e⟩ | ⟨_, e⟩ | ⟨_, e⟩ | ⟨_, e⟩ <;> rw [e] at h
  ·exact False.elim h
  ·obtain ⟨m, j, rfl, hz, e1, hq⟩:=h
   obtain ⟨vs, cnt, ht, hx⟩:=k.obj _ _ e
   obtain ⟨t, rfl⟩:=hb
   obtain ⟨i0, i1, i2, rfl⟩:=pyIdx_some e1
   refine ki_setAt (n:=cnt) ht i0 (lt63 i2) (by rw [List.size_toArray, ← hx.length]; exact i1) ?_
   exact P _ _ s.toks (go_list k e ht (ws:=vs.set m.toNat val) (by simp) (VRs.set hv _ hx)) hq
  ·obtain ⟨key, hk, one, hz, hq⟩:=h
   rcases mapOf_look k e one hb hk with ⟨at', kvs, rfl, h1, h2, h3⟩ | ⟨l, ad, xs, rfl, rfl, h1, h2, h3, h4, h5⟩
   ·refine wpAny_setItem_pairs h1 h2 (fun h' hd hs => P _ h' _ (Go.put (o':=.dict (aset es (.one at') v)) k e rfl hs (Or.inl ⟨_, hd, ?_⟩)) hq) (by rw [← h3.length]; exact sz100k hz)
    have t:=k.tupsBut e hs
    exact F2.aset1 (h3.imp fun _ _ q => ⟨q.1, q.2.keep t⟩) _ (hv.keep t)
   ·have t0:∀ {h':Heap}, Heap.SameBut x s.heap h' → TupKeep s.heap h':=fun hs => k.tupsBut e hs
    refine wpAny_setItem_heap hA.units1 h1 h2 (fun h' hd hs => P _ h' _ (Go.put (o':=.dict (aset es (.tp l) v)) k e rfl hs (Or.inr ⟨_, hd, ?_, ?_⟩)) hq) (by rw [← h3.length]; exact sz100k hz)
    have t:=k.tupsBut e hs
    ·exact F2.asetH (h3.imp fun _ _ q => ⟨q.1, q.2.keep t⟩) _ _ (hv.keep t)
    ·intro y hy
     have t:=t0 hs
     have keep:∀ {a:Addr}, (∃ its n, IsT s.heap a its n) → ∃ its n, IsT h' a its n:=fun ⟨its, n, q⟩ => ⟨its, n, t _ _ q rfl ⟨_, _, rfl⟩⟩
     unfold storedH at hy
     split at hy
     ·obtain ⟨z, hz1, rfl⟩:=List.mem_map.mp hy
      have:(putAt l val z).2.1 = z.2.1:=by unfold putAt; split <;> rfl
      rw [this]; exact keep (h4 z hz1)
     ·rcases List.mem_append.mp hy with hy | hy
      ·exact keep (h4 y hy)
      ·rw [List.mem_singleton.mp hy]; exact keep h5
  all_goals exact False.elim h
 | _ => exact False.elim h
noncomputable abbrev AttrsR (h:Heap) (es:List (Str × V)) (ents:List DictEntry):Prop:=F2 (fun (e:Str × V) (ent:DictEntry) => (∃ t, ent.key = .str e.1 t) ∧ VR h e.2 ent.val) es ents
theorem isStr_eq {x y:Str} {t:Tok}:(Value.str x t).isStr y = decide (x = y):=by
 show (x == y) = _
 by_cases q:x = y
 ·rw [q, beq_self_eq_true, decide_eq_true rfl]
 ·rw [beq_eq_false_iff_ne.mpr q, decide_eq_false q]
theorem attrs_get {h:Heap} {es:List (Str × V)} {ents:List DictEntry} (f:AttrsR h es ents) (x:Str) :
  (∀ v, aget es x = some v → ∃ val, getL x ents = some (some val) ∧ VR h v val) ∧ (aget es x = none → getL x ents = some none):=by
 have noref:ents.any (·.refKey) = false:=by
  induction f with
  | nil => rfl
  | cons r f ih =>
   obtain ⟨⟨t, e⟩, _⟩:=r
   simp only [List.any_cons, ih, Bool.or_false]
   unfold DictEntry.refKey; rw [e]
 unfold getL
 rw [noref]
 have main:(∀ v, aget es x = some v → ∃ en, ents.find? (·.key.isStr x) = some en ∧ VR h v en.val) ∧ (aget es x = none → ents.find? (·.key.isStr x) = none):=by
  clear noref
  induction f with
  | nil => exact ⟨fun v e => (nomatch e), fun _ => rfl⟩
  | @cons e en es ents r f ih =>
   obtain ⟨⟨t, e1⟩, e2⟩:=r
   unfold aget at ih ⊢
   simp only [List.find?_cons, e1, isStr_eq]
   by_cases q:e.1 = x
   ·simp only [q, decide_true]
    exact ⟨fun v z => by cases z; exact ⟨en, rfl, e2⟩, fun z => by cases z⟩
   ·simp only [q, decide_false]; exact ih
 constructor
 ·intro v e
  obtain ⟨en, q1, q2⟩:=main.1 v e
  rw [q1]; exact ⟨_, rfl, q2⟩
 ·intro e
  rw [main.2 e]; rfl
theorem attrs_put {h:Heap} {es:List (Str × V)} {ents:List DictEntry} (f:AttrsR h es ents) (x:Str) {v:V} {val:Value} (hv:VR h v val) (hsh:Int) (t:Tok):AttrsR h (aput es x v) (putL x hsh (.str x t) val ents):=by
 induction f with
 | nil => exact .cons ⟨⟨t, rfl⟩, hv⟩ .nil
 | @cons e en es ents r f ih =>
  obtain ⟨t', e1⟩:=r.1
  have ea:aput (e :: es) x v = if e.1 = x then (e.1, v) :: es else e :: aput es x v:=rfl
  rw [ea]
  simp only [putL, e1, isStr_eq]
  by_cases q:e.1 = x
  ·simp only [q, decide_true, if_true]; exact .cons ⟨⟨t', by rw [← q]⟩, hv⟩ f
  ·simp only [q, decide_false, if_false, Bool.false_eq_true]; exact .cons r ih
theorem attrs_noref {h:Heap} {es:List (Str × V)} {ents:List DictEntry} (f:AttrsR h es ents):ents.any (·.refKey) = false:=by
 induction f with
 | nil => rfl
 | cons r f ih =>
  obtain ⟨⟨t, e⟩, _⟩:=r
  simp only [List.any_cons, ih, Bool.or_false]
  unfold DictEntry.refKey; rw [e]
theorem VR.handed {h:Heap} {v:V} {a:Value} (e:VR h v a):handedIn a = true:=by
 cases v with
 | none => cases e; rfl
 | bool b => cases e; rfl
 | int i => obtain ⟨t, rfl⟩:=e; rfl
 | str i => obtain ⟨t, rfl⟩:=e; rfl
 | tup xs => obtain ⟨_, _, _, rfl, _⟩:=e.shapeTup; rfl
 | ref x => cases e; rfl
theorem inst_of (k:Ok c σ s.heap) {a dx:Addr} {es:List (Str × V)} (e1:σ a = some (.inst dx)) (e2:σ dx = some (.attrs es)) :
  ∃ ents n, s.heap.get? dx = some (dictOf ents n) ∧ AttrsR s.heap es ents ∧ InstAt s.heap a (instObj c.C dx) c.C (some (dictOf ents n)):=by
 have I:=k.obj _ _ e1
 obtain ⟨ents, n, h1, h2⟩:=k.obj _ _ e2
 exact ⟨ents, n, h1, h2, I, rfl, rfl, h1⟩
theorem r_getAttr {expr:Bool} {o:V} {a:Value} {x:Str} (W:CfgOk c) (hx:x ∈ attrNames) (k:Ok c σ s.heap) (ha:VR s.heap o a) (h:getAttrW o x σ Q) (P:PostV c s σ Q Q') :
  wpAny (model c.prog c.w) A (getAttr a x expr) Q' E s:=by
 cases o with
 | ref o =>
  cases ha
  obtain ⟨dx, es, v, e1, e2, e3, hq⟩:=h
  obtain ⟨ents, n, h1, h2, I⟩:=inst_of k e1 e2
  obtain ⟨val, g1, g2⟩:=(attrs_get h2 x).1 v e3
  exact get_value (k.kin W) I (plainGet_of W.pg).1 (findObj_own W.hd (W.at_ x hx) rfl g1) g2.handed (P.same k g2 hq _)
 | _ => exact False.elim h
theorem osa_at {a dx:Addr} {es:List (Str × V)} {v:V} {val:Value} {x:Str} {tk:Tok} {R:Result → Shared → Prop} (W:CfgOk c) (hx:x ∈ attrNames) (k:Ok c σ s.heap) (hv:VR s.heap v val) (e1:σ a = some (.inst dx)) (e2:σ dx = some (.attrs es)) (hz:es.length ≤ 100)
  (P:∀ h', Go c σ s.heap (σ.set dx (.attrs (aput es x v))) h' → R (.ok (.ret .none)) { s with heap:=h', toks:=s.toks + 1 }) :
  codeAny (model c.prog c.w) A (.call (.builtin "object.__setattr__") ⟨[.ref a, .str x tk, val], []⟩) R s:=by
 obtain ⟨ents, n, D, h2, I⟩:=inst_of k e1 e2
 have X:=k.kin W
 refine osa_open (r:=none) X I W.po (by unfold takerIn; rw [W.at_ x hx]; rfl) fun b => ?_
 obtain ⟨cd, hc, hd'⟩:=any_some W.hd
 obtain ⟨hx', hcl, hn, -⟩:=I
 refine wpAny_bind (wpAny_pure (wpAny_bind (wpAny_bind (wpAny_loadPart hx' (wpAny_bind ((looks_clsIn X hc).here ?_))))))
 rw [hd']
 refine wpAny_pure (a:=some dx) (wpAny_bind (wpAny_pure (wpAny_bind ?_)))
 unfold nsSet
 refine wpAny_bind (wpAny_bind (wpAny_askSetting (wpAny_pure (wpAny_bind (wpAny_mkText (wpAny_bind (wpAny_loadPart D ?_)))))))
 have cz:(!ents.toArray.any (·.key.isStr x) && ents.toArray.any (·.refKey)) = false:=by
  rw [← Array.any_toList, ← Array.any_toList, show ents.toArray.toList = ents from rfl, attrs_noref h2, Bool.and_false]
 have hs:=Heap.SameBut.update s.heap dx (Obj.putName x (PyData.keyHash c.w.params x) (.str x s.toks) val)
 have D':(s.heap.update dx (Obj.putName x (PyData.keyHash c.w.params x) (.str x s.toks) val)).get? dx = some (dictOf (putL x (PyData.keyHash c.w.params x) (.str x s.toks) val ents) (putN x ents n)):=by
  rw [← putName_dict]
  exact Heap.get?_update_self _ D (by rw [putName_dict]; rfl)
 have t:=k.tupsBut e2 hs
 have F':=attrs_put h2 x hv (PyData.keyHash c.w.params x) s.toks
 have len:(putL x (PyData.keyHash c.w.params x) (.str x s.toks) val ents).length ≤ 1000:=by
  rw [← F'.length]
  have:∀ es:List (Str × V), (aput es x v).length ≤ es.length + 1:=by
   intro es
   induction es with
   | nil => exact Nat.le_refl _
   | cons e r ih => exact iteInduction (motive:=fun l:List (Str × V) => l.length ≤ r.length + 1 + 1) (fun _ => Nat.le_succ _) fun _ => Nat.succ_le_succ ih
  have:=this es
  omega
 dsimp only [dictOf]
 rw [aRefKeyMayBeTheName_at, cz]
 refine wpAny_updatePart D ?_
 refine wpAny_bind (wpAny_lookBehind D' (pastItsLine_dict (by rw [List.size_toArray, sizeLine_eq]; omega)) ?_)
 exact wpAny_pure (P _ (Go.put (o':=.attrs (aput es x v)) k e2 rfl hs ⟨_, _, D', F'.imp fun _ _ ⟨q1, q2⟩ => ⟨q1, q2.keep t⟩⟩))
theorem r_setAttr {o v:V} {a val:Value} {x:Str} (W:CfgOk c) (hx:x ∈ attrNames) (k:Ok c σ s.heap) (ha:VR s.heap o a) (hv:VR s.heap v val) (h:setAttrW o x v σ Qu) (P:PostU c s σ Qu Qu') :
  wpAny (model c.prog c.w) A (setAttr a x val) Qu' E s:=by
 cases o with
 | ref o =>
  cases ha
  obtain ⟨dx, es, e1, e2, hz, hq⟩:=h
  obtain ⟨ents, n, D, h2, I⟩:=inst_of k e1 e2
  exact set_plain (k.kin W) I W.sa (osa_at (s:={ s with toks:=s.toks + 1 }) W hx k hv e1 e2 hz fun h' g => P _ h' _ g hq)
 | _ => exact False.elim h
end
end Mini
end
section
namespace Mini
open PySem PySem.W PyProof.Rows
section
variable {c:Cfg} {A:Around} {E:Value → Shared → Prop} {s:Shared} {σ:Store} {Q:V → Store → Prop} {Q':Value → Shared → Prop} {Qu:Store → Prop} {Qu':Unit → Shared → Prop}
theorem VRs.nil' {h:Heap} {vals:List Value} (e:VRs h [] vals):vals = []:=e
theorem VRs.cons' {h:Heap} {x:V} {xs:List V} {vals:List Value} (e:VRs h (x :: xs) vals):∃ v r, vals = v :: r ∧ VR h x v ∧ VRs h xs r:=e
theorem VRs.one' {h:Heap} {x:V} {vals:List Value} (e:VRs h [x] vals):∃ v, vals = [v] ∧ VR h x v:=by
 obtain ⟨v, r, rfl, h1, h2⟩:=e.cons'; exact ⟨v, by rw [h2.nil'], h1⟩
theorem VRs.two' {h:Heap} {x y:V} {vals:List Value} (e:VRs h [x, y] vals):∃ v u, vals = [v, u] ∧ VR h x v ∧ VR h y u:=by
 obtain ⟨v, r, rfl, h1, h2⟩:=e.cons'; obtain ⟨u, rfl, h3⟩:=h2.one'; exact ⟨v, u, rfl, h1, h3⟩
theorem ints_items {h:Heap}:∀ {xs:List V} {ns:List Int} {vs:List Value}, intsOf xs = some ns → VRs h xs vs → ∃ ps:List (Int × Tok), vs = ps.map (fun p => .int p.1 p.2) ∧ ps.map (·.1) = ns:=by
 intro xs
 induction xs with
 | nil => intro ns vs e r; cases e; rw [r.nil']; exact ⟨[], rfl, rfl⟩
 | cons x xs ih =>
  intro ns vs e r
  obtain ⟨v, r', rfl, h1, h2⟩:=r.cons'
  cases x with
  | int i =>
   obtain ⟨ns', e', rfl⟩:=Option.map_eq_some_iff.mp e
   obtain ⟨ps, q1, q2⟩:=ih e' h2
   obtain ⟨t, rfl⟩:=h1
   exact ⟨(i, t) :: ps, by rw [q1]; rfl, by rw [← q2]; rfl⟩
  | _ => exact nomatch e
theorem preSum_eq {ns:List Int} {val:Nat → Int} (hv:∀ j n, ns[j]? = some n → val j = n):∀ j, j ≤ ns.length → preSum val j = (ns.take j).sum:=by
 intro j
 induction j with
 | zero => intro _; rfl
 | succ j ih =>
  intro hj
  have e:val j = ns[j]:=hv j _ (List.getElem?_eq_getElem hj)
  show preSum val j + val j = _
  rw [List.take_succ_eq_append_getElem hj, List.sum_append, ih (Nat.le_of_succ_le hj), e]
  exact congrArg (_ + ·) (Int.add_zero _).symm
theorem r_bcall {n:Nat} {b:BFn} {vs:List V} {vals:List Value} (W:CfgOk c) (hA:AOk A n) (k:Ok c σ s.heap) (hv:VRs s.heap vs vals) (h:bcallW b vs σ Q) (P:PostV c s σ Q Q') :
  wpAny (model c.prog c.w) A (call (bVal b) vals) Q' E s:=by
 cases b with
 | abs =>
  obtain ⟨v, rfl, h1⟩:=of_one1 h
  obtain ⟨i, rfl, h2⟩:=V.of_int1 h1
  obtain ⟨v, rfl, t, rfl⟩:=hv.one'
  refine call_abs_int fun u tk => ?_
  rw [show (if i < 0 then -i else i) = ((i.natAbs:Nat):Int) from by split <;> omega]
  exact P.same k (.int _ _ _) h2 tk
 | len =>
  obtain ⟨v, rfl, h1⟩:=of_one1 h
  obtain ⟨a, rfl, h2⟩:=V.of_ref1 h1
  obtain ⟨v, rfl, rfl⟩:=hv.one'
  rcases mobj (σ a) with e | ⟨xs, e⟩ | ⟨es, e⟩ | ⟨_, e⟩ | ⟨_, e⟩ | ⟨_, e⟩ | ⟨_, e⟩ <;> rw [e] at h2
  ·exact False.elim h2
  ·obtain ⟨z, hq⟩:=h2
   obtain ⟨us, m, ht, hx⟩:=k.obj _ _ e
   have len:=hx.length
   refine Calls.call_len_list (IsL.isList ht) (by rw [List.size_toArray]; omega) ?_
   rw [List.size_toArray, ← len]
   exact P.same k (.int _ _ _) hq _
  ·obtain ⟨z, one, hq⟩:=h2
   obtain ⟨kvs, h1', h2'⟩:=DictR.ones (k.obj _ _ e) one
   have len:=h2'.length
   refine call_len_dict (k.notSys W e rfl) h1' (by omega) ?_
   rw [← len]
   exact P.same k (.int _ _ _) hq _
  all_goals exact False.elim h2
 | list =>
  obtain ⟨v, rfl, h1⟩:=of_one1 h
  obtain ⟨a, rfl, h2⟩:=V.of_ref1 h1
  obtain ⟨v, rfl, rfl⟩:=hv.one'
  rcases mobj (σ a) with e | ⟨xs, e⟩ | ⟨es, e⟩ | ⟨_, e⟩ | ⟨_, e⟩ | ⟨_, e⟩ | ⟨_, e⟩ <;> rw [e] at h2
  ·exact False.elim h2
  ·obtain ⟨z, hq⟩:=h2
   obtain ⟨us, m, ht, hx⟩:=k.obj _ _ e
   refine call_list_seq _ (.inl rfl) ht rfl rfl (fun h' c' g1 g2 => ?_) (by rw [List.size_toArray, ← hx.length]; exact sz100k z)
   exact P (.ref _) _ _ h' s.toks (Go.alloc' (o:=.list xs) k g1 (Nat.le_refl _) ⟨us, c', g2, hx.keep (.all g1)⟩) rfl (hq _ (k.free (Nat.le_refl _)))
  all_goals exact False.elim h2
 | sum =>
  obtain ⟨v, rfl, h1⟩:=of_one1 h
  obtain ⟨a, rfl, h2⟩:=V.of_ref1 h1
  obtain ⟨v, rfl, rfl⟩:=hv.one'
  rcases mobj (σ a) with e | ⟨xs, e⟩ | ⟨es, e⟩ | ⟨_, e⟩ | ⟨_, e⟩ | ⟨_, e⟩ | ⟨_, e⟩ <;> rw [e] at h2
  ·exact False.elim h2
  ·obtain ⟨ns, e1, z, hn, hq⟩:=h2
   obtain ⟨us, m, ht, hx⟩:=k.obj _ _ e
   obtain ⟨ps, rfl, rfl⟩:=ints_items e1 hx
   have len:=hx.length
   have hL:s.heap.IsList _ (intItems ps.toArray):=IsL.isList (by simpa [intItems] using ht)
   have hv:∀ j m, (ps.map (·.1))[j]? = some m → numAt ps.toArray j = m:=by
    intro j m q
    rw [List.getElem?_map] at q
    obtain ⟨p, q1, q2⟩:=Option.map_eq_some_iff.mp q
    simp [numAt, q1, q2]
   refine sum_intListG hA.1 hL fun h' tk t' g => ?_
   rw [show ps.toArray.size = ps.length from rfl, preSum_eq hv ps.length (Nat.le_of_eq (List.length_map ..).symm), List.take_of_length_le (Nat.le_of_eq (List.length_map ..))]
   exact P (.int _) σ _ h' tk (Go.grow' k g) (.int _ _ _) hq
  all_goals exact False.elim h2
end
end Mini
end
section
namespace Mini
open PySem PySem.W PyProof.Rows
section
variable {c:Cfg} {A:Around} {E:Value → Shared → Prop} {s:Shared} {σ:Store} {Q:V → Store → Prop} {Q':Value → Shared → Prop} {Γ:GE} {n:Nat}
noncomputable def MethR (c:Cfg) (n:Nat) (a:Value):MKind → Value → List Value → Prop
 | .own spec, fv, first => first = [a] ∧ ∃ x, fv = .ref x ∧ keepIn c.K fv = true ∧ Sound c n fv spec
 | .append, fv, first => fv = .builtin "list.append" ∧ first = [a]
 | .pop, fv, first => fv = .builtin "list.pop" ∧ first = [a]
 | .reverse, fv, first => fv = .builtin "list.reverse" ∧ first = [a]
 | .count, fv, first => fv = .builtin "list.count" ∧ first = [a]
 | .get, fv, first => fv = .builtin "dict.get" ∧ first = [a]
noncomputable def Kp (c:Cfg) (f:Value):Prop:=(∃ id, f = .builtin id) ∨ (∃ T, f = .type T) ∨ keepIn c.K f = true
theorem MethR.kp {a fv:Value} {first:List Value}:∀ {k:MKind}, MethR c n a k fv first → Kp c fv ∧ first = [a]
 | .own _, ⟨h1, _, _, h2, _⟩ => ⟨.inr (.inr h2), h1⟩
 | .append, ⟨h1, h2⟩ => ⟨.inl ⟨_, h1⟩, h2⟩
 | .pop, ⟨h1, h2⟩ => ⟨.inl ⟨_, h1⟩, h2⟩
 | .reverse, ⟨h1, h2⟩ => ⟨.inl ⟨_, h1⟩, h2⟩
 | .count, ⟨h1, h2⟩ => ⟨.inl ⟨_, h1⟩, h2⟩
 | .get, ⟨h1, h2⟩ => ⟨.inl ⟨_, h1⟩, h2⟩
theorem dict_noDict {d:Addr} {es:List (Key × V)} {h:Heap} (D:DictR c h d es):s.heap = h → s.TypeIs (.ref d) "dict" ∧ ∀ a, Value.ref d = .ref a → ∃ o, s.heap.get? a = some o ∧ o.dict = none:=by
 rintro rfl
 rcases D with ⟨kvs, h1, _⟩ | ⟨xs, h1, _, _⟩
 ·exact ⟨h1.typeIs, h1.mapOf.noDict⟩
 ·exact ⟨h1.typeIs, by obtain ⟨o, _, _, e, k, _⟩:=h1; intro a z; cases z; exact ⟨o, e, k.2.1⟩⟩
theorem of_ite {p A B:Prop} [Decidable p] (h:if p then A else B):(p ∧ A) ∨ B:=by
 by_cases q:p
 ·rw [if_pos q] at h; exact .inl ⟨q, h⟩
 ·rw [if_neg q] at h; exact .inr h
theorem r_getMethod {o:V} {a:Value} {x:Str} {pl:Sem Bool} {K:MKind → Prop} {R:Value × List Value → Shared → Prop} (W:CfgOk c) (G:GOk c n Γ) (k:Ok c σ s.heap) (ha:VR s.heap o a) (h:methKind Γ σ o x K)
  (P:∀ kd fv first, MethR c n a kd fv first → K kd → R (fv, first) s):wpAny (model c.prog c.w) A (getMethod a x pl) R E s:=by
 cases o with
 | ref a0 =>
  cases ha
  unfold methKind at h
  dsimp only at h
  rcases mobj (σ a0) with e | ⟨xs, e⟩ | ⟨es, e⟩ | ⟨dx, e⟩ | ⟨_, e⟩ | ⟨_, e⟩ | ⟨_, e⟩ <;> rw [e] at h
  ·exact False.elim h
  ·obtain ⟨vs, m, ht, hx⟩:=k.obj _ _ e
   have hd:∀ b, Value.ref a0 = .ref b → ∃ o, s.heap.get? b = some o ∧ o.dict = none:=fun b z => by cases z; exact ⟨_, ht, rfl⟩
   have hT:s.TypeIs (.ref a0) "list":=⟨_, ht, rfl⟩
   rcases of_ite h with ⟨rfl, h⟩ | h
   ·exact getMethod_builtin hT PySem.F.plainAttrs_list PySem.F.slot_list_append PySem.F.type_list_append hd (P .append _ _ ⟨rfl, rfl⟩ h)
   rcases of_ite h with ⟨rfl, h⟩ | h
   ·exact getMethod_builtin hT PySem.F.plainAttrs_list PySem.F.slot_list_pop PySem.F.type_list_pop hd (P .pop _ _ ⟨rfl, rfl⟩ h)
   rcases of_ite h with ⟨rfl, h⟩ | h
   ·exact getMethod_builtin hT PySem.F.plainAttrs_list PySem.F.slot_list_reverse PySem.F.type_list_reverse hd (P .reverse _ _ ⟨rfl, rfl⟩ h)
   rcases of_ite h with ⟨rfl, h⟩ | h
   ·exact getMethod_builtin hT PySem.F.plainAttrs_list PySem.F.slot_list_count PySem.F.type_list_count hd (P .count _ _ ⟨rfl, rfl⟩ h)
   ·exact False.elim h
  ·have D:DictR c s.heap _ es:=k.obj _ _ e
   obtain ⟨hT, hd⟩:=dict_noDict D rfl
   rcases of_ite h with ⟨rfl, h⟩ | h
   ·exact getMethod_builtin hT PySem.F.plainAttrs_dict PySem.F.slot_dict_get PySem.F.type_dict_get hd (P .get _ _ ⟨rfl, rfl⟩ h)
   ·exact False.elim h
  ·obtain ⟨es, spec, e1, e2, e3, hq⟩:=h
   obtain ⟨ents, m, D, h2, I⟩:=inst_of k e e1
   obtain ⟨fa, f1, f2, f3, f4⟩:=G.meth _ _ e3
   obtain ⟨g1, g2⟩:=plainGet_of W.pg
   exact method_fn (k.kin W) I g1 g2 f1 (beq_iff_eq.mp f2) (by show (lookIn x (dictOf ents m)).map (·.isSome) = some false; rw [lookIn_dict x ents m, (attrs_get h2 x).2 e2]; rfl) (P (.own spec) _ _ ⟨rfl, _, rfl, f3, f4⟩ hq)
  all_goals exact False.elim h
 | _ => exact False.elim h
theorem countP_none {h:Heap}:∀ {xs:List V} {vs:List Value}, VRs h xs vs → vs.countP (fun y => y == Value.none) = xs.countP V.isNone:=by
 intro xs
 induction xs with
 | nil => intro vs e; rw [e.nil']; rfl
 | cons x xs ih =>
  intro vs e
  obtain ⟨v, r, rfl, h1, h2⟩:=e.cons'
  rw [List.countP_cons, List.countP_cons, ih h2, h1.isNone]
theorem mem_none {h:Heap}:∀ {xs:List V} {vs:List Value}, VRs h xs vs → ∀ y ∈ vs, ∃ x ∈ xs, VR h x y:=by
 intro xs
 induction xs with
 | nil => intro vs e y hy; rw [e.nil'] at hy; exact nomatch hy
 | cons x xs ih =>
  intro vs e y hy
  obtain ⟨v, r, rfl, h1, h2⟩:=e.cons'
  rcases List.mem_cons.mp hy with rfl | hy
  ·exact ⟨x, List.mem_cons_self .., h1⟩
  ·obtain ⟨z, q1, q2⟩:=ih h2 y hy; exact ⟨z, List.mem_cons_of_mem _ q1, q2⟩
theorem fits {h:Heap} {xs:List V} {us:List Value} (hx:VRs h xs us) (hz:xs.length ≤ 100000):us.toArray.size ≤ sizeLine:=by rw [List.size_toArray, ← hx.length]; exact sz100k hz
theorem none_or {x:V} (h:x.isNone = true ∨ x.isTup = true):eqA 0 x .none = some x.isNone:=by
 cases x with
 | none => rfl
 | tup xs => rfl
 | _ => rcases h with h | h <;> exact absurd h Bool.false_ne_true
theorem r_methCall {kd:MKind} {o:V} {a fv:Value} {first:List Value} {vs:List V} {vals:List Value} (W:CfgOk c) (hA:AOk A n) (k:Ok c σ s.heap) (ha:VR s.heap o a) (m:MethR c n a kd fv first) (hv:VRs s.heap vs vals)
  (h:methW kd o vs σ Q) (P:PostV c s σ Q Q'):wpAny (model c.prog c.w) A (call fv (first ++ vals)) Q' E s:=by
 cases kd with
 | own spec =>
  obtain ⟨rfl, x, rfl, m1, m2⟩:=m
  exact wpAny_call (m2 A s σ _ _ Q _ hA k (show VRs s.heap (o :: vs) (a :: vals) from ⟨_, _, rfl, ha, hv⟩) h fun v σ' val h' tk' g r q => P v σ' val h' tk' g r q)
 | append =>
  obtain ⟨a0, rfl, h1⟩:=V.of_ref1 h
  obtain ⟨v, rfl, xs, e, hz, hq⟩:=of_one1 h1
  obtain ⟨rfl, rfl⟩:=m
  obtain ⟨val, rfl, hval⟩:=hv.one'
  cases ha
  obtain ⟨us, cnt, ht, hx⟩:=k.obj _ _ e
  refine call_meets PySem.F.slot_list_append ⟨_, ht, rfl⟩ PySem.F.entry_list_append (PySem.F.args_list_append_2 _ _) (PySem.list_append _ us.toArray cnt val (fits hx hz)) ⟨ht, ?_⟩
  exact P .none _ _ _ s.toks (go_list k e ht (ws:=us ++ [val]) (by simp) (hx.append (.one hval))) rfl hq
 | pop =>
  obtain ⟨a0, rfl, h1⟩:=V.of_ref1 h
  obtain ⟨rfl, ys, v, e, hz, hq⟩:=of_nil1 h1
  obtain ⟨rfl, rfl⟩:=m
  rw [hv.nil']
  cases ha
  obtain ⟨us, cnt, ht, hx⟩:=k.obj _ _ e
  obtain ⟨u1, u2, rfl, r1, r2⟩:=hx.split
  obtain ⟨val, rfl, r2'⟩:=r2.one'
  have len:=r1.length
  refine call_meets PySem.F.slot_list_pop ⟨_, ht, rfl⟩ PySem.F.entry_list_pop (PySem.F.args_list_pop_1 _) (MeetsSeq.list_pop_last _ (u1 ++ [val]).toArray cnt val (by simp) (by simp only [List.size_toArray, List.length_append, List.length_singleton, sizeLine_eq]; omega)) ⟨ht, ?_⟩
  have G:=go_list (f:=fun xs => xs.eraseIdxIfInBounds ((u1 ++ [val]).toArray.size - 1)) k e ht (ws:=u1) (by simp [List.eraseIdx_append_of_length_le]) r1
  exact P v _ _ _ s.toks G (G.vr k r2') hq
 | reverse =>
  obtain ⟨a0, rfl, h1⟩:=V.of_ref1 h
  obtain ⟨rfl, xs, e, hz, hq⟩:=of_nil1 h1
  obtain ⟨rfl, rfl⟩:=m
  rw [hv.nil']
  cases ha
  obtain ⟨us, cnt, ht, hx⟩:=k.obj _ _ e
  refine call_meets PySem.F.slot_list_reverse ⟨_, ht, rfl⟩ PySem.F.entry_list_reverse (PySem.F.args_list_reverse_1 _) (AutoSeq1.list_reverse_list_0 _ us.toArray cnt (fits hx hz)) ⟨ht, ?_⟩
  exact P .none _ _ _ s.toks (go_list k e ht (ws:=us.reverse) List.reverse_toArray hx.rev) rfl hq
 | count =>
  obtain ⟨a0, rfl, h1⟩:=V.of_ref1 h
  obtain ⟨v, rfl, h2⟩:=of_one1 h1
  obtain ⟨rfl, xs, e, hz, hall, hq⟩:=V.of_none1 h2
  obtain ⟨rfl, rfl⟩:=m
  obtain ⟨val, rfl, rfl⟩:=hv.one'
  cases ha
  obtain ⟨us, cnt, ht, hx⟩:=k.obj _ _ e
  refine call_meets PySem.F.slot_list_count ⟨_, ht, rfl⟩ PySem.F.entry_list_count (PySem.F.args_list_count_2 _ _) (SeqAt.list_countAt _ us.toArray cnt none #[] .none (fun y => y == Value.none)) ⟨ht, fun y hy => ?_, ?_⟩
  ·obtain ⟨x, hx1, hx2⟩:=mem_none hx y (Array.mem_def.mp hy)
   rw [hx2.isNone]
   refine eqA_at (n:=0) (A:=A.in1) (ul (m:=A.units + 1) (n:=19) (by rw [Nat.add_assoc]; exact hA.u20)) ?_ hx2 (show VR s.heap .none .none from rfl)
   exact none_or (hall x hx1)
  ·rw [show us.toArray.toList = us from rfl, countP_none hx]
   exact P.same k (.int _ _ _) hq _
 | get =>
  obtain ⟨a0, rfl, h1⟩:=V.of_ref1 h
  obtain ⟨iv, dv, rfl, es, key, e, hk, one, hq⟩:=of_two1 h1
  obtain ⟨rfl, rfl⟩:=m
  obtain ⟨i, d, rfl, hi, hd⟩:=hv.two'
  cases ha
  have ns:=k.notSys W e rfl
  rcases mapOf_look k e one hi hk with ⟨at', kvs, rfl, h1, h2, h3⟩ | ⟨l, ad, xs, rfl, rfl, h1, h2, h3, h4, h5⟩
  ·have lk:=h3.valueAt at'
   refine call_meetsIn PySem.F.slot_dict_get h2.typeIs PySem.F.entry_dict_get (PySem.F.args_dict_get_3 _ _ _) (meets_dict_get_default (AK c) _ h1 ns d) ⟨_, h2.mapOf, ?_⟩
   refine P.same k ?_ hq _
   cases q:aget es (.one at') with
   | none => rw [q] at lk; rw [show PySem.valueAt kvs at' = none from lk]; exact hd
   | some u => rw [q] at lk; obtain ⟨val, l1, l2⟩:=lk; rw [l1]; exact l2
  ·have lk:=h3.atKey l
   refine call_meetsIn PySem.F.slot_dict_get h2.typeIs PySem.F.entry_dict_get (PySem.F.args_dict_get_3 _ _ _) (meetsH_dict_get_default (TK c) _ _ ns d) ⟨hA.units1, _, _, h1, h2, ?_⟩
   refine P.same k ?_ hq _
   cases q:aget es (.tp l) with
   | none => rw [q] at lk; rw [show PySem.atKey xs l = none from lk]; exact hd
   | some u => rw [q] at lk; obtain ⟨_, val, l1, l2⟩:=lk; rw [l1]; exact l2
end
end Mini
end
section
namespace Mini
open PySem PySem.W PyProof.Rows
section
variable {prog:Program} {w:World} {A:Around} {E:Value → Shared → Prop} {s:Shared}
theorem rawIter {d:Addr} {o:Obj} {es:Array DictEntry} {ep:Nat} {Q:Value → Shared → Prop} (hd:(d == sysModules) = false) (ho:s.heap.get? d = some o) (hc:o.ExactDict) (hdat:o.data = .dict es ep)
  (hQ:Q (.ref s.heap.objs.size) { s with heap:=s.heap.push { cls:=.type "dict_keyiterator", data:=.fields #[.ref d, .int 0 0, .int es.size 0, .int ep 0] } }) :
  wpAny (model prog w) A (pyIter (.ref d)) Q E s:=by
 have hT:s.TypeIs (.ref d) "dict":=⟨o, ho, hc.1⟩
 refine wpAny_pyIter_slot hT PySem.F.slot_dict_iter (wpAny_call_entry PySem.F.slot_dict_iter hT PySem.F.entry_dict_iter ?_ (PySem.F.args_dict_iter_1 _))
 unfold Builtin.«dict.__iter__»
 refine wpAny_bind ?_
 unfold Builtin.Dict.dictSlotNone
 refine wpAny_bind (wpAny_notOrdered_dict hT ?_)
 show wpAny _ _ (pure (Value.ref d)) _ _ s
 refine wpAny_pure ?_
 show wpAny _ _ (Builtin.Dict.showsAll d >>= _) _ _ s
 unfold Builtin.Dict.showsAll
 rw [if_neg (by rw [hd]; exact Bool.false_ne_true)]
 refine wpAny_bind (wpAny_pure (wpAny_bind (wpAny_dictEntries ho hdat (wpAny_bind (wpAny_dictEpoch ho hdat ?_)))))
 exact wpAny_bind (wpAny_newObj_type (wpAny_pure ⟨_, rfl, "dict_keyiterator", _, ⟨_, Heap.get?_push_size _ rfl, rfl⟩, PySem.F.slot_dict_keyiterator_next.lookup, hQ⟩))
theorem rawNext {it d:Addr} {i ep:Nat} {o:Obj} {es:Array DictEntry} {e:DictEntry} {Q:Option Value → Shared → Prop} (hit:s.heap.IsKeyIter it d i es.size ep)
  (hod:s.heap.get? d = some o) (hdd:o.data = .dict es ep) (hx:es[i]? = some e)
  (hQ:∀ h', h'.IsKeyIter it d (i + 1) es.size ep → Heap.SameBut it s.heap h' → Q (some e.key) { s with heap:=h' }) :
  wpAny (model prog w) A (pyNext (.ref it)) Q E s:=by
 obtain ⟨oi, ho, hc, hd⟩:=id hit
 unfold pyNext
 refine wpAny_bind (wpAny_attempt (wpAny_callSpecial?_slot (name:=Str.ofString "__next__") hit.typeIs PySem.F.slot_dict_keyiterator_next
  (wpAny_call_entry PySem.F.slot_dict_keyiterator_next hit.typeIs PySem.F.entry_dict_keyiterator_next ?_ (PySem.F.args_dict_keyiterator_next_1 _))))
 refine wpAny_bind (wpAny_pure (wpAny_bind (wpAny_bind ?_)))
 first | refine wpAny_bind (wpAny_typeNameOfWhole_keyiter hit.typeIs (wpAny_pure ?_)) | refine wpAny_bind (wpAny_typeNameOf_keyiter hit.typeIs (wpAny_pure ?_))
 refine wpAny_bind (wpAny_fieldsOf ho hd ?_)
 have hown:Builtin.Dict_items.ownsTuple "dict_keyiterator" = false:=by decide
 rw [hown, if_neg Bool.false_ne_true]
 show wpAny _ _ (if (Value.ref d == Value.none) = true then _ else _) _ _ s
 rw [if_neg (show ¬ ((Value.ref d == Value.none) = true) from Bool.false_ne_true)]
 refine wpAny_bind (wpAny_pure (wpAny_bind (wpAny_dictEntries hod hdd ?_)))
 rw [if_neg (by simp)]
 refine wpAny_bind (wpAny_pure (wpAny_bind (wpAny_dictEpoch hod hdd ?_)))
 rw [if_neg (by simp)]
 refine wpAny_pure ?_
 dsimp only
 rw [if_neg (Int.not_lt.mpr (Int.natCast_nonneg i)), Int.toNat_natCast, hx]
 dsimp only
 refine wpAny_bind ?_
 first | refine wpAny_bind (wpAny_typeNameOfWhole_keyiter hit.typeIs (wpAny_pure ?_)) | refine wpAny_bind (wpAny_typeNameOf_keyiter hit.typeIs (wpAny_pure ?_))
 refine wpAny_bind (wpAny_isOneOf_keyiter hit.typeIs ?_)
 show wpAny _ _ (setField (.ref it) 1 (rawInt ((i:Int) + 1)) >>= _) _ _ s
 refine wpAny_bind (wpAny_setField ho hd (by simp) ?_)
 have hit':(s.heap.update it (Obj.mapFields (·.setIfInBounds 1 (rawInt ((i:Int) + 1))))).IsKeyIter it d (i + 1) es.size ep :=
  ⟨_, Heap.get?_update_self _ ho (Obj.isFreed_of_fields (Obj.data_mapFields hd _)), (Obj.cls_mapFields ..).trans hc, by rw [Obj.data_mapFields hd]; simp [rawInt]⟩
 refine wpAny_bind (wpAny_holding ?_)
 refine wpAny_bind (wpAny_isOneOf_keyiter (s:={ s with heap:=s.heap.update it (Obj.mapFields (·.setIfInBounds 1 (rawInt ((i:Int) + 1)))) }) hit'.typeIs ?_)
 show wpAny _ _ (pure e.key) _ _ _
 exact wpAny_pure (wpAny_pure ⟨_, rfl, wpAny_pure (hQ _ hit' (Heap.SameBut.update ..))⟩)
theorem rawEnd {it d:Addr} {i ep:Nat} {o:Obj} {es:Array DictEntry} {Q:Option Value → Shared → Prop} (hh:A.handled = none) (hit:s.heap.IsKeyIter it d i es.size ep)
  (hod:s.heap.get? d = some o) (hdd:o.data = .dict es ep) (hx:es[i]? = none)
  (hQ:∀ h', Heap.ExtBut it s.heap h' → Q none { s with heap:=h' }):wpAny (model prog w) A (pyNext (.ref it)) Q E s:=by
 obtain ⟨oi, ho, hc, hd⟩:=id hit
 unfold pyNext
 refine wpAny_bind (wpAny_attempt (wpAny_callSpecial?_slot (name:=Str.ofString "__next__") hit.typeIs PySem.F.slot_dict_keyiterator_next
  (wpAny_call_entry PySem.F.slot_dict_keyiterator_next hit.typeIs PySem.F.entry_dict_keyiterator_next ?_ (PySem.F.args_dict_keyiterator_next_1 _))))
 refine wpAny_bind (wpAny_pure (wpAny_bind (wpAny_bind ?_)))
 first | refine wpAny_bind (wpAny_typeNameOfWhole_keyiter hit.typeIs (wpAny_pure ?_)) | refine wpAny_bind (wpAny_typeNameOf_keyiter hit.typeIs (wpAny_pure ?_))
 refine wpAny_bind (wpAny_fieldsOf ho hd ?_)
 have hown:Builtin.Dict_items.ownsTuple "dict_keyiterator" = false:=by decide
 rw [hown, if_neg Bool.false_ne_true]
 show wpAny _ _ (if (Value.ref d == Value.none) = true then _ else _) _ _ s
 rw [if_neg (show ¬ ((Value.ref d == Value.none) = true) from Bool.false_ne_true)]
 refine wpAny_bind (wpAny_pure (wpAny_bind (wpAny_dictEntries hod hdd ?_)))
 rw [if_neg (by simp)]
 refine wpAny_bind (wpAny_pure (wpAny_bind (wpAny_dictEpoch hod hdd ?_)))
 rw [if_neg (by simp)]
 refine wpAny_pure ?_
 dsimp only
 rw [if_neg (Int.not_lt.mpr (Int.natCast_nonneg i)), Int.toNat_natCast, hx]
 dsimp only
 refine wpAny_bind ?_
 first | refine wpAny_bind (wpAny_typeNameOfWhole_keyiter hit.typeIs (wpAny_pure ?_)) | refine wpAny_bind (wpAny_typeNameOf_keyiter hit.typeIs (wpAny_pure ?_))
 show wpAny _ _ (setField (.ref it) 0 .none >>= _) _ _ s
 refine wpAny_bind (wpAny_setField ho hd (by simp) ?_)
 show wpAny _ _ (newExc (.type "StopIteration") [] >>= _) _ _ _
 refine wpAny_bind ?_
 simp only [newExc, newTuple]
 refine wpAny_bind (wpAny_newObj_type ?_ (by size_fits))
 refine wpAny_bind (m:=firstArgMember _ _) (wpAny_of_eq (a:=Value.none) (by first | rfl | (simp only [firstArgMember]; rfl)) ?_)
 refine wpAny_newObj_type ?_ (by size_fits)
 delta raiseNew
 dsimp only
 refine wpAny_bind (wpAny_handled ?_)
 rw [show A.in1.handled = none from hh]
 refine wpAny_bind (wpAny_pure (wpAny_throw ?_))
 refine wpAny_bind (wpAny_isInstance (T:="StopIteration") (b:=true) ⟨_, Heap.get?_push_size _ rfl, rfl⟩ isSubtype_stop ?_)
 exact wpAny_pure (hQ _ (((Heap.SameBut.update ..).extBut.push _).push _))
end
structure ItK (c:Cfg) (I:Addr) (fp:List Addr) (items:List V) (guard:Store → Prop) (St:Nat → Heap → Prop):Prop where
 loc:∀ i h h', St i h → (∀ o, h.get? I = some o → h'.get? I = some o) → (∀ b ∈ fp, ∀ o, h.get? b = some o → h'.get? b = some o) → TupKeep h h' → St i h'
 has:∀ i h, St i h → ∃ o, h.get? I = some o ∧ o.cls ≠ .type "tuple"
 fpI:I ∉ fp
 item:∀ i (A:Around) (s:Shared) (σ:Store) x (Q:Option Value → Shared → Prop) E, A.handled = none → Ok c σ s.heap → guard σ → St i s.heap → items[i]? = some x →
  (∀ v h' tk, VR s.heap x v → St (i + 1) h' → (∀ b o, b ≠ I → s.heap.get? b = some o → h'.get? b = some o) → Q (some v) { s with heap:=h', toks:=tk }) → wpAny (model c.prog c.w) A (pyNext (.ref I)) Q E s
 done:∀ (A:Around) (s:Shared) (σ:Store) (Q:Option Value → Shared → Prop) E, A.handled = none → Ok c σ s.heap → guard σ → St items.length s.heap →
  (∀ h' tk, (∀ b o, b ≠ I → s.heap.get? b = some o → h'.get? b = some o) → Q none { s with heap:=h', toks:=tk }) → wpAny (model c.prog c.w) A (pyNext (.ref I)) Q E s
 self:∀ i (A:Around) (s:Shared) (Q:Value → Shared → Prop) E, St i s.heap → Q (.ref I) s → wpAny (model c.prog c.w) A (pyIter (.ref I)) Q E s
section
variable {c:Cfg} {A:Around} {E:Value → Shared → Prop} {s:Shared} {σ:Store}
theorem extBut_keep {I:Addr} {h h':Heap} (x:Heap.ExtBut I h h'):∀ b o, b ≠ I → h.get? b = some o → h'.get? b = some o:=fun b o n e => x b o n e
theorem sameBut_keep {I:Addr} {h h':Heap} (x:Heap.SameBut I h h'):∀ b o, b ≠ I → h.get? b = some o → h'.get? b = some o:=fun b o n e => (x.2 b n).trans e
theorem itList {I a:Addr} {xs:List V} (hne:a ≠ I):ItK c I [] xs (fun σ' => σ' a = some (.list xs)) (fun i h => h.IsListIter I a i) where
 loc:=fun _ _ _ st e _ _ => st.at e
 has:=fun _ _ ⟨o, e, k, _⟩ => ⟨o, e, by rw [k]; decide⟩
 fpI:=List.not_mem_nil
 item:=fun i A s σ x Q E hh k g st e hQ => by
  obtain ⟨vs, n, ht, hx⟩:=k.obj _ _ g
  obtain ⟨v, e1, e2⟩:=hx.get e
  refine wpAny_pyNext_list_item st (IsL.isList ht) (x:=v) (by simpa using e1) fun h' hit' hs' => hQ v h' s.toks e2 hit' (sameBut_keep hs')
 done:=fun A s σ Q E hh k g st hQ => by
  obtain ⟨vs, n, ht, hx⟩:=k.obj _ _ g
  exact wpAny_pyNext_list_end hh st (IsL.isList ht) (by have:=hx.length; simp; omega) fun h' he' => hQ h' s.toks (extBut_keep he')
 self:=fun i A s Q E st hq => wpAny_pyIter_listiter st hq
theorem poke_tups {I:Addr} {h h':Heap} (ht:∀ o, h.get? I = some o → o.cls ≠ .type "tuple") (x:∀ b o, b ≠ I → h.get? b = some o → h'.get? b = some o):TupKeep h h' :=
 fun b o e q _ => x b o (fun z => by subst z; exact ht o e q) e
theorem itTuple {I a:Addr} {xs:List V}:ItK c I [] xs (fun _ => True) (fun i h => h.IsTupleIter I a i ∧ ∃ vs n, IsT h a (List.toArray vs) n ∧ VRs h xs vs) where
 loc:=fun _ _ _ ⟨st, vs, n, ht, hx⟩ e _ t => ⟨st.at e, vs, n, t _ _ ht rfl ⟨_, _, rfl⟩, hx.keep t⟩
 has:=fun _ _ ⟨⟨o, e, k, _⟩, _⟩ => ⟨o, e, by rw [k]; decide⟩
 fpI:=List.not_mem_nil
 item:=fun i A s σ x Q E hh k g st e hQ => by
  obtain ⟨st, vs, n, ht, hx⟩:=st
  obtain ⟨v, e1, e2⟩:=hx.get e
  refine wpAny_pyNext_tuple_item st (isTuple_of ht) (x:=v) (by simpa using e1) fun h' hit' hs' => ?_
  have t:=poke_tups (h:=s.heap) (I:=I) (h':=h') (fun o z => by obtain ⟨o', z', k', _⟩:=st; rw [z'] at z; cases z; rw [k']; decide) (sameBut_keep hs')
  exact hQ v h' s.toks e2 ⟨hit', vs, n, t _ _ ht rfl ⟨_, _, rfl⟩, hx.keep t⟩ (sameBut_keep hs')
 done:=fun A s σ Q E hh k g st hQ => by
  obtain ⟨st, vs, n, ht, hx⟩:=st
  exact wpAny_pyNext_tuple_end hh st (isTuple_of ht) (by have:=hx.length; simp; omega) fun h' he' => hQ h' s.toks (extBut_keep he')
 self:=fun i A s Q E st hq => wpAny_pyIter_tupleiter st.1 hq
theorem itRange {I:Addr} {a c':Int} {n:Nat}:ItK c I [] ((List.range n).map fun (i:Nat) => V.int (a + i * c')) (fun _ => True) (fun i h => IsRangeIter h I (a + (i:Nat) * c') ((n:Int) - (i:Nat)) c') where
 loc:=fun _ _ _ st e _ _ => e _ st
 has:=fun _ _ st => ⟨_, st, by simp⟩
 fpI:=List.not_mem_nil
 item:=fun i A s σ x Q E hh k g st e hQ => by
  rw [List.getElem?_map] at e
  obtain ⟨j, e1, rfl⟩:=Option.map_eq_some_iff.mp e
  obtain ⟨lt, e2⟩:=List.getElem?_eq_some_iff.mp e1
  rw [List.getElem_range] at e2
  subst e2
  simp only [List.length_range] at lt
  refine wpAny_pyNext_range_item st (by omega) fun h' hit' hs' => ?_
  refine hQ _ h' _ ⟨_, rfl⟩ ?_ (sameBut_keep hs')
  have e1:a + ((i + 1:Nat):Int) * c' = a + (i:Int) * c' + c':=by push_cast; rw [Int.add_mul, Int.one_mul, Int.add_assoc]
  have e2:(n:Int) - ((i + 1:Nat):Int) = (n:Int) - (i:Int) - 1:=by push_cast; omega
  rw [e1, e2]; exact hit'
 done:=fun A s σ Q E hh k g st hQ => wpAny_pyNext_range_end hh st (by simp) fun h' he' => hQ h' s.toks (extBut_keep he')
 self:=fun _ _ _ _ _ st hQ => wpAny_pyIter_rangeiter st hQ
noncomputable def RawDict (h:Heap) (a:Addr) (items:List V) (o:Obj) (ents:Array DictEntry) (ep:Nat):Prop :=
 h.get? a = some o ∧ o.ExactDict ∧ o.data = .dict ents ep ∧ ents.size = items.length ∧ ∀ (i:Nat) (x:V), items[i]? = some x → ∃ en:DictEntry, ents[i]? = some en ∧ VR h x en.key
theorem RawDict.keep {h h':Heap} {a:Addr} {items:List V} {o:Obj} {ents:Array DictEntry} {ep:Nat} (r:RawDict h a items o ents ep) (e:∀ o, h.get? a = some o → h'.get? a = some o) (t:TupKeep h h'):RawDict h' a items o ents ep :=
 let ⟨r1, r2, r3, r4, r5⟩:=r
 ⟨e _ r1, r2, r3, r4, fun i x hx => let ⟨en, q1, q2⟩:=r5 i x hx; ⟨en, q1, q2.keep t⟩⟩
theorem itDict {I a:Addr} {items:List V} (hne:a ≠ I) (guard:Store → Prop):ItK c I [a] items guard (fun i h => ∃ o ents ep, RawDict h a items o ents ep ∧ h.IsKeyIter I a i ents.size ep) where
 loc:=fun _ _ _ ⟨o, ents, ep, r, oi, z1, z2⟩ e f t => ⟨o, ents, ep, r.keep (f a (by simp)) t, oi, e _ z1, z2⟩
 has:=fun _ _ ⟨_, _, _, _, o, e, k, _⟩ => ⟨o, e, by rw [k]; decide⟩
 fpI:=by simpa using Ne.symm hne
 item:=fun i A s σ x Q E hh k g st e hQ => by
  obtain ⟨o, ents, ep, r, st⟩:=st
  obtain ⟨r1, r2, r3, r4, r5⟩:=id r
  obtain ⟨en, e1, e2⟩:=r5 i x e
  refine rawNext st r1 r3 e1 fun h' hit' hs' => ?_
  have t:=poke_tups (h:=s.heap) (I:=I) (h':=h') (fun o z => by obtain ⟨o', z', k', _⟩:=st; rw [z'] at z; cases z; rw [k']; decide) (sameBut_keep hs')
  exact hQ _ h' s.toks e2 ⟨o, ents, ep, r.keep (fun o e => (hs'.2 a hne).trans e) t, hit'⟩ (sameBut_keep hs')
 done:=fun A s σ Q E hh k g st hQ => by
  obtain ⟨o, ents, ep, ⟨r1, r2, r3, r4, r5⟩, st⟩:=st
  exact rawEnd hh st r1 r3 (by rw [← r4]; simp) fun h' he' => hQ h' s.toks (extBut_keep he')
 self:=fun _ _ _ _ _ ⟨_, _, _, _, st⟩ hQ => wpAny_pyIter_keyiter st hQ
theorem items_vrs {h:Heap} {l:List Atom} {vs:List Value} (x:ItemsAre (AK c) l vs):VRs h (l.map Atom.v) vs:=by
 induction x with
 | nil => rfl
 | cons q _ ih =>
  refine ⟨_, _, rfl, ?_, ih⟩
  rcases atomIs_shape q with ⟨i, t, rfl, rfl⟩ | ⟨x, t, rfl, rfl⟩
  ·exact ⟨t, rfl⟩
  ·exact ⟨t, rfl⟩
theorem F2.at {α β:Type} {R:α → β → Prop} {as:List α} {bs:List β} (f:F2 R as bs):∀ {i:Nat} {a:α}, as[i]? = some a → ∃ b, bs[i]? = some b ∧ R a b:=by
 induction f with
 | nil => intro i a z; exact nomatch z
 | @cons a b as bs r _ ih =>
  intro i e z
  cases i with
  | zero => cases (Option.some.inj (show some a = some e from z)); exact ⟨b, rfl, r⟩
  | succ i => exact ih (show as[i]? = some e from z)
theorem dict_raw {h:Heap} {d:Addr} {es:List (Key × V)} (D:DictR c h d es):∃ o ents ep, RawDict h d (es.map fun e => e.1.v) o ents ep:=by
 rcases D with ⟨kvs, ⟨o, en, ep, ho, hx, hd, hk, hp, _⟩, f⟩ | ⟨xs, ⟨o, en, ep, ho, hx, hd, he, his, _⟩, f, g⟩
 ·refine ⟨o, en, ep, ho, hx, hd, ?_, fun i x q => ?_⟩
  ·rw [List.length_map, f.length, ← hp.length, Array.length_toList]
  ·rw [List.getElem?_map] at q
   obtain ⟨e, q1, rfl⟩:=Option.map_eq_some_iff.mp q
   obtain ⟨kv, w1, w2, _⟩:=f.at q1
   have lt:i < en.size:=by rw [← Array.length_toList, hp.length]; exact (List.getElem?_eq_some_iff.mp w1).1
   have v2:=(Pairs.get? hp (e:=en[i]) (by rw [Array.getElem?_toList]; exact Array.getElem?_eq_getElem lt) (show kvs[i]? = some (kv.1, kv.2) from w1)).1
   refine ⟨en[i], Array.getElem?_eq_getElem lt, ?_⟩
   rw [w2]
   show VR h kv.1.v en[i].key
   rcases atomIs_shape v2 with ⟨i, t, z1, z2⟩ | ⟨x, t, z1, z2⟩
   ·rw [z1, z2]; exact ⟨t, rfl⟩
   ·rw [z1, z2]; exact ⟨t, rfl⟩
 ·refine ⟨o, en, ep, ho, hx, hd, ?_, fun i x q => ?_⟩
  ·rw [List.length_map, f.length]; have:=congrArg List.length he; rw [Array.length_toList, List.length_map] at this; exact this
  ·rw [List.getElem?_map] at q
   obtain ⟨e, q1, rfl⟩:=Option.map_eq_some_iff.mp q
   obtain ⟨kv, w1, w2, _⟩:=f.at q1
   refine ⟨_, by rw [entry_at he, w1]; rfl, ?_⟩
   rw [w2]
   obtain ⟨its, n, ht⟩:=g kv (List.mem_of_getElem? w1)
   obtain ⟨o', its', n', z1, z2, z3, z4⟩:=his kv (List.mem_of_getElem? w1)
   rw [ht] at z1; cases z1; cases z3
   exact ⟨kv.2.1, its.toList, n, rfl, ht, items_vrs z4⟩
end
end Mini
end
section
namespace Mini
open PySem PySem.W PyProof.Rows
section
variable {c:Cfg} {A:Around} {E:Value → Shared → Prop} {s:Shared} {σ:Store} {Q:V → Store → Prop} {Q':Value → Shared → Prop} {env:Env} {ρ:Loc}
theorem r_var {M:Model} {x:Str} {v:V} (R:EnvR c env ρ σ s.heap) (hk:isVarK (env.kindOf x) = true) (hc:(x == ("__classdict__":Str)) = false) (h0:(x == (".0":Str)) = false) (hv:ρ.get x = some v) (h:∀ val, VR s.heap v val → Q' val s) :
  wpAny M A (loadName env x) Q' E s:=by
 obtain ⟨fn, glb, blt, ⟨m, hm, hl⟩, hcell, _⟩:=R
 cases q:env.kindOf x with
 | none => rw [q] at hk; cases hk
 | some kd =>
  cases kd with
  | «local» =>
   obtain ⟨val, e1, e2⟩:=hl x v hv q (beq_eq_false_iff_ne.mp h0)
   exact wpAny_loadName_local fn q hm e1 (h val e2)
  | cell =>
   obtain ⟨a, u, e1, e2, e3⟩:=hcell x (.inl q)
   obtain ⟨val, rfl, e4⟩:=e3 v hv
   exact wpAny_loadName_cell fn q e1 e2 (h val e4)
  | free =>
   obtain ⟨a, u, e1, e2, e3⟩:=hcell x (.inr q)
   obtain ⟨val, rfl, e4⟩:=e3 v hv
   exact wpAny_loadName_free fn q e1 e2 (h val e4) hc
  | _ => rw [q] at hk; cases hk
theorem r_globName {M:Model} {x:Str} {val:Value} {pos:Pos} (W:CfgOk c) (k:Ok c σ s.heap) (R:EnvR c env ρ σ s.heap) (hk:isGlobK (env.kindOf x) = true) (hd:(x == ("__debug__":Str)) = false) (hv:c.mg x = some val) (h:Q' val s) :
  wpAny M A (eval (.Name x pos) env) Q' E s:=by
 have hx:env.kindOf x = some .globalImplicit:=by
  cases q:env.kindOf x with
  | none => rw [q] at hk; cases hk
  | some kd => cases kd <;> first | rfl | (rw [q] at hk; cases hk)
 exact Calls.Name_function_global R.fn hx (Calls.loadGlobal_global (mg:=c.mg) (by rw [R.glb]; exact W.g.keeps k.base) hv h) hd
theorem r_builtName {M:Model} {x:Str} {val:Value} {pos:Pos} (W:CfgOk c) (k:Ok c σ s.heap) (R:EnvR c env ρ σ s.heap) (hk:isGlobK (env.kindOf x) = true) (hd:(x == ("__debug__":Str)) = false) (hg:c.mg x = none) (hv:c.mb x = some val) (h:Q' val s) :
  wpAny M A (eval (.Name x pos) env) Q' E s:=by
 have hx:env.kindOf x = some .globalImplicit:=by
  cases q:env.kindOf x with
  | none => rw [q] at hk; cases hk
  | some kd => cases kd <;> first | rfl | (rw [q] at hk; cases hk)
 exact Calls.Name_function_global R.fn hx (Calls.loadGlobal_builtin (mg:=c.mg) (mb:=c.mb) (by rw [R.glb]; exact W.g.keeps k.base) hg (by rw [R.blt]; exact W.b.keeps k.base) hv h) hd
theorem star_plain {env:Env} {pos:Pos} {args:List PySem.Expr}:args.all notStar = true → backTo pos (starEach args env) = args.map fun e => (false, eval e env):=by
 induction args with
 | nil => intro _; rfl
 | cons e r ih =>
  intro h
  rw [List.all_cons, Bool.and_eq_true] at h
  have:starEach (e :: r) env = (false, eval e env) :: starEach r env:=by cases e <;> first | rfl | exact absurd (show false = true from h.1) Bool.false_ne_true
  rw [this]
  show (false, eval e env) :: backTo pos (starEach r env) = _
  rw [ih h.2]; rfl
theorem any_plain {env:Env} (args:List PySem.Expr):(args.map fun e => (false, eval e env)).any (·.1) = false:=by induction args with
 | nil => rfl
 | cons a r ih => simpa using ih
theorem callWith_any {pos:Pos} {f:Value} {first:List Value} {args:List PySem.Expr} (_W:CfgOk c) (hf:Kp c f) (hs:args.all notStar = true)
  (h:wpAny (model c.prog c.w) A (spliced (args.map fun e => (false, eval e env))) (fun vs s₁ => c.K.In s₁.heap ∧ wpAny (model c.prog c.w) A (call f (first ++ vs)) Q' E s₁) E s) :
  wpAny (model c.prog c.w) A (callWith pos f first (backTo pos (starEach args env)) []) Q' E s:=by
 rw [star_plain hs]
 have ev:wpAny (model c.prog c.w) A (evalArgs f true (args.map fun e => (false, eval e env)) []) (fun a s₁ => c.K.In s₁.heap ∧ wpAny (model c.prog c.w) A (call f (first ++ a.pos) a.kw) Q' E s₁) E s:=by
  cases args with
  | nil =>
   unfold evalArgs
   show wpAny _ A (spliced [] >>= _) _ E s
   refine wpAny_bind (wpAny_mono h (fun vs s₁ h₁ => ?_) fun _ _ e => e)
   refine wpAny_bind (wpAny_pure ?_)
   refine wpAny_holding ?_
   exact wpAny_bind (wpAny_pure (wpAny_bind (wpAny_pure (wpAny_pure h₁))))
  | cons e r => exact Calls.evalArgs_plain h
 refine callWith_of (P:=fun h => c.K.In h) (by rw [any_plain]; rfl) (fun h X => ?_) ev
 rcases hf with ⟨id, rfl⟩ | ⟨T, rfl⟩ | hk
 ·exact ⟨.machine, .inr (.inl rfl), .now⟩
 ·exact ⟨.machine, .inr (.inl rfl), .now⟩
 ·exact keeps_K hk h X
end
end Mini
end
section
namespace Mini
open PySem PySem.W PyProof.Rows
noncomputable def Fz (σ σf:Store) (unf:Store → Store) (guard:Store → Prop):Prop :=
 (σf = σ ∧ unf = id) ∨ ∃ a es, σ a = some (.dict es) ∧ σf = σ.set a (.fdict es) ∧ (unf = fun σ' => σ'.set a (.dict es)) ∧ ∀ σ', guard σ' → σ' a = some (.fdict es)
section
variable {c:Cfg} {σ σf σ₂:Store} {unf:Store → Store} {guard:Store → Prop} {h h₂:Heap} {env:Env}
theorem Fz.ok (z:Fz σ σf unf guard) (k:Ok c σ h):Ok c σf h:=by
 rcases z with ⟨rfl, _⟩ | ⟨a, es, e, rfl, _, _⟩
 ·exact k
 ·refine ⟨fun b o q => ?_, k.base, fun b m => ?_, k.room⟩
  ·by_cases y:b = a
   ·subst y; rw [set_eq] at q; cases q; exact k.obj b (.dict es) e
   ·rw [set_ne y] at q; exact k.obj b o q
  ·by_cases y:b = a
   ·subst y; rw [Mut.set_eq] at m; cases m
   ·rw [Mut.set_ne y] at m; exact k.new b m
theorem Fz.okBack (z:Fz σ σf unf guard) (k:Ok c σ h) (k₂:Ok c σ₂ h₂) (g:guard σ₂):Ok c (unf σ₂) h₂:=by
 rcases z with ⟨rfl, rfl⟩ | ⟨a, es, e, rfl, rfl, gg⟩
 ·exact k₂
 ·refine ⟨fun b o q => ?_, k₂.base, fun b m => ?_, k.room⟩
  ·dsimp only at q
   by_cases y:b = a
   ·subst y; rw [set_eq] at q; cases q; exact k₂.obj b (.fdict es) (gg _ g)
   ·rw [set_ne y] at q; exact k₂.obj b o q
  ·dsimp only at m
   by_cases y:b = a
   ·subst y; exact k.new b (by unfold Mut; rw [e])
   ·rw [Mut.set_ne y] at m; exact k₂.new b m
theorem Fz.mutOff (z:Fz σ σf unf guard) {b:Addr} (m:Mut σ b = false):Mut σf b = false:=by
 rcases z with ⟨rfl, _⟩ | ⟨a, es, e, rfl, _, _⟩
 ·exact m
 ·by_cases y:b = a
  ·subst y; exact Mut.set_eq
  ·rw [Mut.set_ne y]; exact m
theorem Fz.noneOff (z:Fz σ σf unf guard) {b:Addr} (m:σ b = none):σf b = none:=by
 rcases z with ⟨rfl, _⟩ | ⟨a, es, e, rfl, _, _⟩
 ·exact m
 ·rw [set_ne (fun y => by subst y; rw [m] at e; cases e)]; exact m
theorem Fz.dom (z:Fz σ σf unf guard) {h:Heap} {b:Addr} (d:∀ b, Mut σ₂ b = true → Mut σf b = true ∨ h.get? b = none) (m:Mut (unf σ₂) b = true):Mut σ b = true ∨ h.get? b = none:=by
 rcases z with ⟨rfl, rfl⟩ | ⟨a, es, e, rfl, rfl, _⟩
 ·exact d b m
 ·dsimp only at m
  by_cases y:b = a
  ·subst y; exact .inl (by unfold Mut; rw [e])
  ·rw [Mut.set_ne y] at m
   rcases d b m with q | q
   ·rw [Mut.set_ne y] at q; exact .inl q
   ·exact .inr q
theorem Fz.noneBack (z:Fz σ σf unf guard) {b:Addr} (m:σ b = none) (n:σ₂ b = none):unf σ₂ b = none:=by
 rcases z with ⟨rfl, rfl⟩ | ⟨a, es, e, rfl, rfl, _⟩
 ·exact n
 ·show (σ₂.set a _) b = none
  rw [set_ne (fun y => by subst y; rw [m] at e; cases e)]; exact n
theorem Fz.go (z:Fz σ σf unf guard) (k:Ok c σ h) (g:Go c σf h σ₂ h₂) (gg:guard σ₂):Go c σ h (unf σ₂) h₂ :=
 ⟨fun b o e m => g.keep b o e (z.mutOff m), fun _ m => z.dom g.dom m, fun b o e m => z.noneBack m (g.out b o e (z.noneOff m)), g.stay, z.okBack k g.ok gg⟩
theorem Fz.goS (z:Fz σ σf unf guard) (k:Ok c σ h) (g:GoS c env σf h σ₂ h₂) (gg:guard σ₂):GoS c env σ h (unf σ₂) h₂ :=
 ⟨fun b o e m => g.keep b o e (z.mutOff m), fun _ m => z.dom g.dom m, fun b o e m => z.noneBack m (g.out b o e (z.noneOff m)), g.stay, z.okBack k g.ok gg, g.tups⟩
noncomputable def IterV (c:Cfg) (σ:Store) (h:Heap) (a:Value) (QI:ItQ):Prop :=
 (∃ v, VR h v a ∧ iterVal v σ QI) ∨
 ∃ r lo hi st t u w, a = .ref r ∧ IsRange h r lo hi st t u w ∧ (st = 1 ∨ st = -1) ∧ -100000 ≤ lo ∧ lo ≤ 100000 ∧ -100000 ≤ hi ∧ hi ≤ 100000 ∧ QI (rangeInts lo hi st) (fun _ => True) σ id
section
variable {A:Around} {E:Value → Shared → Prop} {s:Shared} {Q':Value → Shared → Prop}
theorem span (x y:Int):(if x < y then (y - x - 1) / 1 + 1 else 0:Int) = ((y - x).toNat:Int):=by
 by_cases h:x < y
 ·rw [if_pos h, Int.ediv_one, Int.sub_add_cancel, Int.toNat_of_nonneg (Int.le_of_lt (Int.sub_pos_of_lt h))]
 ·rw [if_neg h, Int.toNat_eq_zero.mpr (Int.sub_nonpos_of_le (Int.not_lt.mp h))]; rfl
theorem range_size {lo hi st:Int} (h:st = 1 ∨ st = -1):Builtin.Range.rangeSize lo hi st = ((if st = 1 then (hi - lo).toNat else (lo - hi).toNat:Nat):Int):=by
 rcases h with rfl | rfl
 ·exact (if_pos (by decide)).trans (span lo hi)
 ·exact (if_neg (by decide)).trans (span hi lo)
theorem fits_long {i:Int} (h:-1000000 ≤ i ∧ i ≤ 1000000):Builtin.Range.rangeFitsLong i = true :=
 Bool.and_eq_true_iff.mpr ⟨decide_eq_true (Int.le_trans (by decide) h.1), decide_eq_true (Int.lt_of_le_of_lt h.2 (by decide))⟩
theorem span_le {x y:Int} (h1:-100000 ≤ x) (h2:y ≤ 100000):((y - x).toNat:Int) ≤ 200000:=Int.ofNat_le.mpr (Int.toNat_le.mpr (Int.le_trans (Int.sub_le_sub h2 h1) (by decide)))
theorem range_small {lo hi st:Int} (h:st = 1 ∨ st = -1) (l1:-100000 ≤ lo) (l2:lo ≤ 100000) (l3:-100000 ≤ hi) (l4:hi ≤ 100000):Builtin.Range.small lo hi st = true:=by
 have n:(((if st = 1 then (hi - lo).toNat else (lo - hi).toNat):Nat):Int) ≤ 200000:=by
  rcases h with rfl | rfl
  ·exact span_le l1 l4
  ·exact span_le l3 l2
 have n0:(0:Int) ≤ ((if st = 1 then (hi - lo).toNat else (lo - hi).toNat:Nat):Int):=Int.natCast_nonneg _
 unfold Builtin.Range.small
 rw [range_size h]
 generalize (((if st = 1 then (hi - lo).toNat else (lo - hi).toNat):Nat):Int) = m at n n0
 have w:∀ {i:Int}, -100000 ≤ i → i ≤ 100000 → Builtin.Range.rangeFitsLong i = true:=fun a b => fits_long ⟨Int.le_trans (by decide) a, Int.le_trans b (by decide)⟩
 refine Bool.and_eq_true_iff.mpr ⟨Bool.and_eq_true_iff.mpr ⟨Bool.and_eq_true_iff.mpr ⟨Bool.and_eq_true_iff.mpr ⟨w l1 l2, w l3 l4⟩, ?_⟩, fits_long ⟨Int.le_trans (by decide) n0, Int.le_trans n (by decide)⟩⟩, Bool.or_eq_true_iff.mpr (.inr ?_)⟩
 ·rcases h with rfl | rfl <;> exact fits_long (by decide)
 ·rcases h with rfl | rfl
  ·exact (if_pos (by decide)).trans (by rw [show hi + (1 - 1) = hi from Int.add_zero hi]; exact w l3 l4)
  ·exact (if_neg (by decide)).trans (by rw [show hi + (-1 + 1) = hi from Int.add_zero hi]; exact w l3 l4)
theorem r_pyIter {a:Value} {QI:ItQ} (W:CfgOk c) (k:Ok c σ s.heap) (h:IterV c σ s.heap a QI)
  (P:∀ items guard σf unf o fp St, Fz σ σf unf guard → o.isFreed = false → ItK c s.heap.objs.size fp items guard St → (∀ h', (∀ b o', s.heap.get? b = some o' → h'.get? b = some o') → h'.get? s.heap.objs.size = some o → St 0 h') →
   (∀ b ∈ fp, Mut σf b = false ∧ (σf b).isSome = true ∧ ∃ o, s.heap.get? b = some o) → QI items guard σf unf → Q' (.ref s.heap.objs.size) { s with heap:=s.heap.push o }) :
  wpAny (model c.prog c.w) A (pyIter a) Q' E s:=by
 have at_:∀ {b:Addr} {o:Obj}, s.heap.get? b = some o → b ≠ s.heap.objs.size:=fun e z => absurd (Heap.lt_size e) (by rw [z]; exact Nat.lt_irrefl _)
 rcases h with ⟨v, hv, h⟩ | ⟨r, lo, hi, st, t, u, w, rfl, hr, hst, l1, l2, l3, l4, hq⟩
 ·cases v with
  | tup xs =>
   obtain ⟨x, vs, n, rfl, ht, hx⟩:=hv.shapeTup
   exact wpAny_pyIter_tuple (isTuple_of ht) (P _ _ σ id _ [] _ (.inl ⟨rfl, rfl⟩) rfl (itTuple (a:=x)) (fun h' kp e => ⟨⟨_, e, rfl, rfl⟩, vs, n, kp _ _ ht, hx.keep (.all kp)⟩) (fun _ z => (nomatch z)) h)
  | ref x =>
   cases hv
   unfold iterVal at h
   dsimp only at h
   rcases mobj (σ x) with e | ⟨xs, e⟩ | ⟨es, e⟩ | ⟨_, e⟩ | ⟨_, e⟩ | ⟨_, e⟩ | ⟨_, e⟩ <;> rw [e] at h
   ·exact False.elim h
   ·obtain ⟨hz, hq⟩:=h
    obtain ⟨vs, n, ht, hx⟩:=k.obj _ _ e
    exact wpAny_pyIter_list (IsL.isList ht) (P _ _ σ id _ [] _ (.inl ⟨rfl, rfl⟩) rfl (itList (at_ ht)) (fun h' kp e => ⟨_, e, rfl, rfl⟩) (fun _ z => (nomatch z)) hq)
   ·obtain ⟨hz, _, hq⟩:=h
    obtain ⟨o, ents, ep, raw⟩:=dict_raw (k.obj _ _ e)
    obtain ⟨r1, r2, r3, r4, r5⟩:=id raw
    refine rawIter (k.notSys W e rfl) r1 r2 r3 (P _ _ _ _ _ [x] _ (.inr ⟨x, es, e, rfl, rfl, fun σ' g => g⟩) rfl (itDict (at_ r1) _) (fun h' kp q => ⟨o, ents, ep, raw.keep (fun o e => kp _ o e) (.all kp), _, q, rfl, rfl⟩) ?_ hq)
    intro b hb
    rw [List.mem_singleton.mp hb]
    exact ⟨Mut.set_eq, by rw [set_eq]; rfl, o, r1⟩
   all_goals exact False.elim h
  | _ => exact False.elim h
 ·have hs:=range_size (lo:=lo) (hi:=hi) hst
  have sm:=range_small hst l1 l2 l3 l4
  refine wpAny_pyIter_range hr sm ?_
  refine P _ _ σ id _ [] _ (.inl ⟨rfl, rfl⟩) rfl (itRange (a:=lo) (c':=st) (n:=if st = 1 then (hi - lo).toNat else (lo - hi).toNat)) (fun h' kp e => ?_) (fun _ z => (nomatch z)) hq
  show IsRangeIter h' _ (lo + ((0:Nat):Int) * st) _ st
  simpa [hs] using e
theorem Ok.poke {h h':Heap} (k:Ok c σ h) {X:Addr → Prop} (hX:∀ b, X b → σ b = none ∧ c.base.get? b = none) (t:TupKeep h h') (x:∀ b o, ¬ X b → h.get? b = some o → h'.get? b = some o):Ok c σ h' :=
 ⟨fun a o e => (k.obj a o e).keep t fun ob q => x a ob (fun z => by rw [(hX a z).1] at e; cases e) q, fun b o e => x b o (fun z => by rw [(hX b z).2] at e; cases e) (k.base b o e), k.new, k.room⟩
theorem Go.poke {σ₀:Store} {h₀ h h':Heap} (g:Go c σ₀ h₀ σ h) {X:Addr → Prop} (hX:∀ b, X b → σ b = none ∧ h₀.get? b = none ∧ c.base.get? b = none) (t:TupKeep h h') (x:∀ b o, ¬ X b → h.get? b = some o → h'.get? b = some o):Go c σ₀ h₀ σ h' :=
 ⟨fun b o e m => x b o (fun z => by rw [(hX b z).2.1] at e; cases e) (g.keep b o e m), g.dom, g.out, fun b o e => let ⟨o', q⟩:=g.stay b o e; ⟨o', x b o' (fun z => by rw [(hX b z).2.1] at e; cases e) q⟩, g.ok.poke (fun b z => ⟨(hX b z).1, (hX b z).2.2⟩) t x⟩
theorem GoS.poke {σ₀:Store} {h₀ h h':Heap} (g:GoS c env σ₀ h₀ σ h) {X:Addr → Prop} (hX:∀ b, X b → σ b = none ∧ h₀.get? b = none ∧ c.base.get? b = none) (t:TupKeep h h') (x:∀ b o, ¬ X b → h.get? b = some o → h'.get? b = some o):GoS c env σ₀ h₀ σ h' :=
 ⟨fun b o e m w => x b o (fun z => by rw [(hX b z).2.1] at e; cases e) (g.keep b o e m w), g.dom, g.out,
  fun b o e => let ⟨o', q⟩:=g.stay b o e; ⟨o', x b o' (fun z => by rw [(hX b z).2.1] at e; cases e) q⟩, g.ok.poke (fun b z => ⟨(hX b z).1, (hX b z).2.2⟩) t x,
  fun a o e q d => t a o (g.tups a o e q d) q d⟩
theorem EnvR.poke {ρ:Loc} {h h':Heap} (R:EnvR c env ρ σ h) {X:Addr → Prop} (hX:∀ b, X b → ¬ Own env b) (t:TupKeep h h') (x:∀ b o, ¬ X b → h.get? b = some o → h'.get? b = some o):EnvR c env ρ σ h':=by
 obtain ⟨fn, glb, blt, ⟨m, hm, hl⟩, hc, ol, oc, ap⟩:=R
 have nL:¬ X env.locals:=fun z => hX _ z (.inl rfl)
 have nC:∀ {y a}, env.cells.lookup y = some a → ¬ X a:=fun q z => hX _ z (.inr ⟨_, q⟩)
 refine ⟨fn, glb, blt, ⟨m, hm.at' fun o e => x _ o nL e, fun y v e q q0 => ?_⟩, fun y q => ?_, ol, fun y a q => ?_, ap⟩
 ·obtain ⟨val, e1, e2⟩:=hl y v e q q0; exact ⟨val, e1, e2.keep t⟩
 ·obtain ⟨a, u, e1, ⟨oc', e2, e3⟩, e4⟩:=hc y q
  exact ⟨a, u, e1, ⟨oc', x _ _ (nC e1) e2, e3⟩, fun v e => let ⟨val, z1, z2⟩:=e4 v e; ⟨val, z1, z2.keep t⟩⟩
 ·obtain ⟨q1, q2, q3, u, oc', e2, e3⟩:=oc y a q
  exact ⟨q1, q2, q3, u, oc', x _ _ (nC q) e2, e3⟩
end
end
end Mini
end
section
namespace Mini
open PySem PySem.W PyProof.Rows
noncomputable def isCF:Option NameKind → Bool
 | some .cell => true
 | some .free => true
 | _ => false
structure Kle (k k':Kinds):Prop where
 v:∀ x, isVarK (k x) = true → isVarK (k' x) = true
 g:∀ x, isGlobK (k x) = true → isGlobK (k' x) = true
 cf:∀ x, isCF (k x) = true → isCF (k' x) = true
theorem Kle.refl (k:Kinds):Kle k k:=⟨fun _ h => h, fun _ h => h, fun _ h => h⟩
noncomputable def PostB (c:Cfg) (s:Shared) (σ:Store) (Q:Bool → Store → Prop) (Q':Bool → Shared → Prop):Prop :=
 ∀ b σ' h' tk', Go c σ s.heap σ' h' → Q b σ' → Q' b { s with heap:=h', toks:=tk' }
noncomputable def PostI (c:Cfg) (s:Shared) (σ:Store) (Q:ItQ) (Q':Value → Shared → Prop):Prop :=
 ∀ σ' val h' tk', Go c σ s.heap σ' h' → IterV c σ' h' val Q → Q' val { s with heap:=h', toks:=tk' }
noncomputable def SX (c:Cfg) (Γ:GE) (n:Nat) (e:PySem.Expr):Prop:=∀ (env:Env) (kd:Kinds) (x:X), er e kd = some x → Kle kd env.kindOf → ∀ (A:Around) E s σ ρ Q Q', AOk A n → Ok c σ s.heap → EnvR c env ρ σ s.heap → wX Γ x ρ σ Q →
 PostV c s σ Q Q' → wpAny (model c.prog c.w) A (eval e env) Q' E s
noncomputable def ST (c:Cfg) (Γ:GE) (n:Nat) (e:PySem.Expr):Prop:=∀ (env:Env) (kd:Kinds) (x:X), er e kd = some x → Kle kd env.kindOf → ∀ (A:Around) E s σ ρ Q Q', AOk A n → Ok c σ s.heap → EnvR c env ρ σ s.heap → wT Γ x ρ σ Q →
 PostB c s σ Q Q' → wpAny (model c.prog c.w) A (isTrue e env (eval e env)) Q' E s
noncomputable def SI (c:Cfg) (Γ:GE) (n:Nat) (e:PySem.Expr):Prop:=∀ (env:Env) (kd:Kinds) (x:X), er e kd = some x → Kle kd env.kindOf → ∀ (A:Around) E s σ ρ Q Q', AOk A n → Ok c σ s.heap → EnvR c env ρ σ s.heap → wIter Γ x ρ σ Q →
 PostI c s σ Q Q' → wpAny (model c.prog c.w) A (eval e env) Q' E s
section
variable {c:Cfg} {Γ:GE} {n:Nat} {A:Around} {E:Value → Shared → Prop} {s:Shared} {σ σ₀:Store} {env:Env} {ρ:Loc}
theorem Go.adopt {h₀ h:Heap} (g:Go c σ₀ h₀ σ h) {D:Addr} {o:MObj} (hD:h₀.objs.size ≤ D) (k₀:Ok c σ₀ h₀) (r:ObjR c h D o):Go c σ₀ h₀ (σ.set D o) h:=by
 have n0:=get?_ge hD
 have fr:=k₀.fresh hD
 refine ⟨g.keep, fun b m => ?_, fun b ob e m => ?_, g.stay, ⟨fun b o' e => ?_, g.ok.base, fun b m => ?_, g.ok.room⟩⟩
 ·by_cases y:b = D
  ·subst y; exact .inr n0
  ·rw [Mut.set_ne y] at m; exact g.dom b m
 ·rw [set_ne (fun y => by subst y; rw [n0] at e; cases e)]; exact g.out b ob e m
 ·by_cases y:b = D
  ·subst y; rw [set_eq] at e; cases e; exact r
  ·rw [set_ne y] at e; exact g.ok.obj b o' e
 ·by_cases y:b = D
  ·subst y; exact fr
  ·rw [Mut.set_ne y] at m; exact g.ok.new b m
theorem lookup_mem {names:List (Str × NameKind)}:∀ {y:Str} {k:NameKind}, names.lookup y = some k → (y, k) ∈ names:=by
 induction names with
 | nil => intro y k h; cases h
 | cons p r ih =>
  intro y k h
  obtain ⟨a, b⟩:=p
  rw [List.lookup_cons] at h
  cases q:y == a with
  | true => rw [q] at h; cases h; rw [eq_of_beq q]; exact List.mem_cons_self
  | false => rw [q] at h; exact List.mem_cons_of_mem _ (ih h)
theorem closure_loop (env:Env):∀ (names:List (Str × NameKind)) (cs:List (Str × Addr)), (∀ p ∈ names, p.2 = .free → ∃ a, env.cells.lookup p.1 = some a) → (∀ y a, cs.lookup y = some a → env.cells.lookup y = some a) →
  ∃ cl, (forIn names cs fun (x:Str × NameKind) (cs:List (Str × Addr)) => (if (x.2 == .free) = true then do let a ← cellOf env x.1; pure (ForInStep.yield ((x.1, a) :: cs)) else pure (ForInStep.yield cs):Sem _)) = (pure cl:Sem _) ∧
   (∀ y a, cl.lookup y = some a → env.cells.lookup y = some a) ∧ (∀ y a, cs.lookup y = some a → ∃ b, cl.lookup y = some b) ∧ ∀ p ∈ names, p.2 = .free → ∃ a, cl.lookup p.1 = some a
 | [], cs, _, h => ⟨cs, rfl, h, fun y a e => ⟨a, e⟩, fun p hp => (nomatch hp)⟩
 | (x, k) :: r, cs, hf, h => by
  rw [List.forIn_cons]
  by_cases q:k = .free
  ·subst q
   obtain ⟨a, ha⟩:=hf (x, .free) List.mem_cons_self rfl
   have hca:cellOf env x = pure a:=by unfold cellOf; rw [ha]
   have h':∀ y b, List.lookup y ((x, a) :: cs) = some b → env.cells.lookup y = some b:=fun y b e => by
    rw [List.lookup_cons] at e
    cases z:y == x with
    | true => rw [z] at e; cases e; rw [eq_of_beq z]; exact ha
    | false => rw [z] at e; exact h y b e
   obtain ⟨cl, e1, e2, e3, e4⟩:=closure_loop env r ((x, a) :: cs) (fun p hp => hf p (List.mem_cons_of_mem _ hp)) h'
   refine ⟨cl, ?_, e2, fun y b e => ?_, fun p hp hpf => ?_⟩
   ·simp only [beq_self_eq_true, if_true, hca, pure_bind]
    exact e1
   ·cases z:y == x with
    | true => exact e3 y a (by rw [List.lookup_cons, z])
    | false => exact e3 y b (by rw [List.lookup_cons, z]; exact e)
   ·rcases List.mem_cons.mp hp with rfl | hp
    ·exact e3 x a (by rw [List.lookup_cons, beq_self_eq_true])
    ·exact e4 p hp hpf
  ·obtain ⟨cl, e1, e2, e3, e4⟩:=closure_loop env r cs (fun p hp => hf p (List.mem_cons_of_mem _ hp)) h
   refine ⟨cl, ?_, e2, e3, fun p hp hpf => ?_⟩
   ·have:(k == NameKind.free) = false:=by simpa using q
    simp only [this, Bool.false_eq_true, if_false, pure_bind]
    exact e1
   ·rcases List.mem_cons.mp hp with rfl | hp
    ·exact absurd hpf q
    ·exact e4 p hp hpf
theorem closure_of {sc:Scope} (hf:∀ p ∈ sc.names, p.2 = .free → ∃ a, env.cells.lookup p.1 = some a) :
  ∃ cl, closureFor sc env = pure cl ∧ (∀ y a, cl.lookup y = some a → env.cells.lookup y = some a) ∧ ∀ p ∈ sc.names, p.2 = .free → ∃ a, cl.lookup p.1 = some a:=by
 obtain ⟨cl, e1, e2, _, e4⟩:=closure_loop env sc.names [] hf (fun y a e => by cases e)
 refine ⟨cl, ?_, e2, e4⟩
 unfold closureFor
 refine Eq.trans ?_ (by rw [e1]:(forIn sc.names [] _ >>= fun cs => pure cs) = (pure cl >>= fun cs => pure cs:Sem _))
 congr 1
theorem lookup_relabel {sc:Scope} {y:Str}:(relabel sc env).names.lookup y = (sc.names.lookup y).map fun k => if (k == NameKind.free && env.scope.kind == .function && env.kindOf y == some .cell) = true then .cell else k:=by
 unfold relabel
 dsimp only
 induction sc.names with
 | nil => rfl
 | cons p r ih =>
  obtain ⟨a, b⟩:=p
  rw [List.map_cons]
  have e:(if (b == NameKind.free && env.scope.kind == .function && env.kindOf a == some .cell) = true then (a, NameKind.cell) else (a, b)) = (a, if (b == NameKind.free && env.scope.kind == .function && env.kindOf a == some .cell) = true then NameKind.cell else b):=by
   split <;> rfl
  rw [e, List.lookup_cons, List.lookup_cons]
  cases q:y == a with
  | true => rw [eq_of_beq q]; rfl
  | false => exact ih
structure COk (x:Str) (sc:Scope) (kd:Kinds):Prop where
 kind:sc.kind = .function
 isx:sc.names.lookup x = some .local
 x0:x ≠ (".0":Str)
 loc:∀ p ∈ sc.names, p.2 = .local → (p.1 = x ∨ p.1 = (".0":Str)) ∧ sc.names.lookup p.1 = some .local
 free:∀ p ∈ sc.names, p.2 = .free → isCF (kd p.1) = true ∧ sc.names.lookup p.1 = some .free
 only:∀ p ∈ sc.names, p.2 = .local ∨ p.2 = .free ∨ p.2 = .globalImplicit
theorem COk.of {x:Str} {sc:Scope} {kd:Kinds} (h:compOk x sc kd = true):COk x sc kd:=by
 unfold compOk at h
 simp only [Bool.and_eq_true, bne_iff_ne, ne_eq, beq_iff_eq, List.all_eq_true, Bool.or_eq_true] at h
 obtain ⟨⟨⟨h1, h2⟩, h3⟩, h4⟩:=h
 refine ⟨by simpa using h1, by simpa using h2, by simpa using h3, fun p hp q => ?_, fun p hp q => ?_, fun p hp => ?_⟩
 ·rcases h4 p hp with (⟨⟨z1, z2⟩, z3⟩ | ⟨⟨z1, z2⟩, z3⟩) | z1
  ·exact ⟨by simpa using z2, by simpa using z3⟩
  ·rw [q] at z1; exact absurd z1 (by decide)
  ·rw [q] at z1; exact absurd z1 (by decide)
 ·rcases h4 p hp with (⟨⟨z1, z2⟩, z3⟩ | ⟨⟨z1, z2⟩, z3⟩) | z1
  ·rw [q] at z1; exact absurd z1 (by decide)
  ·refine ⟨?_, by simpa using z3⟩
   rcases z2 with z2 | z2 <;> rw [show kd p.1 = _ from by simpa using z2] <;> rfl
  ·rw [q] at z1; exact absurd z1 (by decide)
 ·rcases h4 p hp with (⟨⟨z1, z2⟩, z3⟩ | ⟨⟨z1, z2⟩, z3⟩) | z1
  ·exact .inl (by simpa using z1)
  ·exact .inr (.inl (by simpa using z1))
  ·exact .inr (.inr (by simpa using z1))
theorem compKle {sc:Scope} {cl:List (Str × Addr)} {C:Addr}:Kle (scKinds sc) (compEnvC sc cl C env).kindOf:=by
 have e:∀ y, (compEnvC sc cl C env).kindOf y = (scKinds sc y).map fun k => if (k == NameKind.free && env.scope.kind == .function && env.kindOf y == some .cell) = true then .cell else k:=fun y => lookup_relabel
 refine ⟨fun y h => ?_, fun y h => ?_, fun y h => ?_⟩ <;> rw [e y] <;> cases q:scKinds sc y with
 | none => rw [q] at h; cases h
 | some k => rw [q] at h; simp only [Option.map_some]; split <;> first | exact h | rfl | (rename_i z; simp only [Bool.and_eq_true, beq_iff_eq] at z; have:=z.1.1; first | (subst this; first | rfl | cases h))
theorem compEnvR {x:Str} {sc:Scope} {kd:Kinds} {cl:List (Str × Addr)} {C:Addr} {h:Heap} {m:Str → Option Value} {v:V} {val:Value} (R:EnvR c env ρ σ h) (ok:COk x sc kd) (kle:Kle kd env.kindOf)
  (hcl:∀ y a, cl.lookup y = some a → env.cells.lookup y = some a) (hcf:∀ p ∈ sc.names, p.2 = .free → ∃ a, cl.lookup p.1 = some a)
  (hC:σ C = none ∧ c.base.get? C = none ∧ ¬ Own env C) (hm:h.Ns C m) (hx:m x = some val) (hv:VR h v val):EnvR c (compEnvC sc cl C env) (ρ.set x v) σ h:=by
 have e:∀ y, (compEnvC sc cl C env).kindOf y = (sc.names.lookup y).map fun k => if (k == NameKind.free && env.scope.kind == .function && env.kindOf y == some .cell) = true then .cell else k:=fun y => lookup_relabel
 refine ⟨ok.kind, R.glb, R.blt, ⟨m, hm, fun y w hy hk h0 => ?_⟩, fun y hk => ?_, ⟨hC.1, hC.2.1⟩, fun y a ha => ?_, fun y z a hk h1 h2 => ?_⟩
 ·rw [e y] at hk
  obtain ⟨k, q1, q2⟩:=Option.map_eq_some_iff.mp hk
  have:k = .local:=by
   split at q2
   ·cases q2
   ·exact q2
  subst this
  have:=(ok.loc _ (lookup_mem q1) rfl).1
  have hxy:y = x:=by rcases this with z | z; exact z; exact absurd z h0
  subst hxy
  rw [Loc.get_set, if_pos rfl] at hy
  cases hy
  exact ⟨val, hx, hv⟩
 ·have hfree:sc.names.lookup y = some .free:=by
   rw [e y] at hk
   have:∃ k, sc.names.lookup y = some k ∧ ((if (k == NameKind.free && env.scope.kind == .function && env.kindOf y == some .cell) = true then NameKind.cell else k) = .cell ∨ (if (k == NameKind.free && env.scope.kind == .function && env.kindOf y == some .cell) = true then NameKind.cell else k) = .free):=by
    rcases hk with hk | hk <;> obtain ⟨k, q1, q2⟩:=Option.map_eq_some_iff.mp hk
    ·exact ⟨k, q1, .inl q2⟩
    ·exact ⟨k, q1, .inr q2⟩
   obtain ⟨k, q1, q2⟩:=this
   rcases ok.only _ (lookup_mem q1) with z | z | z <;> dsimp only at z <;> subst z
   ·rcases q2 with q2 | q2 <;> simp at q2
   ·exact q1
   ·rcases q2 with q2 | q2 <;> simp at q2
  have hmem:=lookup_mem hfree
  have cf:=kle.cf y (ok.free _ hmem rfl).1
  have cf':env.kindOf y = some .cell ∨ env.kindOf y = some .free:=by
   cases q:env.kindOf y with
   | none => rw [q] at cf; cases cf
   | some k => rw [q] at cf; cases k <;> first | exact .inl rfl | exact .inr rfl | cases cf
  obtain ⟨a, u, z1, z2, z3⟩:=R.cell y cf'
  obtain ⟨b, hb⟩:=hcf _ hmem rfl
  have:b = a:=by have:=hcl _ _ hb; rw [z1] at this; exact (Option.some.inj this).symm
  subst this
  refine ⟨b, u, hb, z2, fun w hw => z3 w ?_⟩
  rw [Loc.get_set] at hw
  have:¬ y = x:=fun z => by subst z; rw [ok.isx] at hfree; cases hfree
  rw [if_neg this] at hw
  exact hw
 ·have ha':=hcl y a ha
  obtain ⟨q1, q2, q3, q4⟩:=R.offC y a ha'
  exact ⟨q1, q2, fun z => hC.2.2 (by rw [show C = a from z.symm]; exact .inr ⟨y, ha'⟩), q4⟩
 ·have:env.kindOf y = some .cell:=by
   rw [e y] at hk
   obtain ⟨k, q1, q2⟩:=Option.map_eq_some_iff.mp hk
   split at q2
   ·rename_i z; simp only [Bool.and_eq_true] at z; simpa using z.2
   ·rcases ok.only _ (lookup_mem q1) with z | z | z <;> dsimp only at z <;> subst z <;> cases q2
  exact R.apart y z a this (hcl _ _ h1) (hcl _ _ h2)
end
end Mini
end
section
namespace Mini
open PySem PySem.W PyProof.Rows
section
variable {c:Cfg} {Γ:GE} {n:Nat} {A:Around} {E:Value → Shared → Prop} {s:Shared} {env:Env} {ρ:Loc}
structure CBase (c:Cfg) (env:Env) (ρ:Loc) (σf:Store) (h₀:Heap) (I C D:Addr) (fp:List Addr) (items:List V) (guard:Store → Prop) (St:Nat → Heap → Prop):Prop where
 k0:Ok c σf h₀
 R0:EnvR c env ρ σf h₀
 it:ItK c I fp items guard St
 fI:h₀.objs.size ≤ I
 fC:h₀.objs.size ≤ C
 fD:h₀.objs.size ≤ D
 IC:I ≠ C
 ID:I ≠ D
 CD:C ≠ D
 fpk:∀ b ∈ fp, Mut σf b = false ∧ (σf b).isSome = true ∧ ∃ o, h₀.get? b = some o
structure CInv (c:Cfg) (σf:Store) (h₀:Heap) (I C D:Addr) (St:Nat → Heap → Prop) (m:Str → Option Value) (acc:MObj) (i:Nat) (σ:Store) (h:Heap):Prop where
 go:Go c σf h₀ σ h
 st:St i h
 ns:h.Ns C m
 oI:σ I = none
 oC:σ C = none
 oD:σ D = none
 acc:ObjR c h D acc
variable {σf σ σ':Store} {h₀ h h':Heap} {I C D:Addr} {fp:List Addr} {items:List V} {guard:Store → Prop} {St:Nat → Heap → Prop} {m:Str → Option Value} {acc:MObj} {i:Nat}
theorem CBase.keepFp (b:CBase c env ρ σf h₀ I C D fp items guard St) (g:Go c σf h₀ σ h) (g':Go c σ h σ' h'):∀ b ∈ fp, ∀ o, h.get? b = some o → h'.get? b = some o:=fun x hx o e => by
 obtain ⟨q1, _, o', q3⟩:=b.fpk x hx
 exact g'.keep x o e (g.mutOff q3 q1)
theorem ns_at {m:Str → Option Value} (x:h.Ns C m):∃ o, h.get? C = some o ∧ ¬ ∃ its n, o.data = .seq its n:=let ⟨o, _, _, e, d, _⟩:=x; ⟨o, e, fun ⟨_, _, q⟩ => by rw [d] at q; cases q⟩
theorem CInv.body (v:CInv c σf h₀ I C D St m acc i σ h) (b:CBase c env ρ σf h₀ I C D fp items guard St) (g:Go c σ h σ' h'):CInv c σf h₀ I C D St m acc i σ' h':=by
 obtain ⟨oI, eI, _⟩:=b.it.has i h v.st
 obtain ⟨oC, eC, _⟩:=ns_at v.ns
 obtain ⟨oD, eD⟩:=v.acc.at
 exact ⟨v.go.trans g, b.it.loc _ _ _ v.st (fun o e => g.keep I o e (Mut.none v.oI)) (b.keepFp v.go g) (g.tups v.go.ok), v.ns.at' fun o e => g.keep C o e (Mut.none v.oC), g.out _ _ eI v.oI, g.out _ _ eC v.oC, g.out _ _ eD v.oD,
  v.acc.keep (g.tups v.go.ok) fun o e => g.keep D o e (Mut.none v.oD)⟩
theorem CBase.fpNe (b:CBase c env ρ σf h₀ I C D fp items guard St) {x y:Addr} (hx:x ∈ fp) (hy:h₀.objs.size ≤ y):x ≠ y:=fun z => by
 obtain ⟨_, _, o, e⟩:=b.fpk x hx; subst z; rw [get?_ge hy] at e; cases e
theorem CBase.xs (b:CBase c env ρ σf h₀ I C D fp items guard St) (v:CInv c σf h₀ I C D St m acc i σ h) {x:Addr} (hx:x = I ∨ x = C ∨ x = D):∀ y, y = x → σ y = none ∧ h₀.get? y = none ∧ c.base.get? y = none:=by
 rintro y rfl
 rcases hx with rfl | rfl | rfl
 ·exact ⟨v.oI, get?_ge b.fI, (b.k0.fresh b.fI).1⟩
 ·exact ⟨v.oC, get?_ge b.fC, (b.k0.fresh b.fC).1⟩
 ·exact ⟨v.oD, get?_ge b.fD, (b.k0.fresh b.fD).1⟩
theorem CInv.pokeI (v:CInv c σf h₀ I C D St m acc i σ h) (b:CBase c env ρ σf h₀ I C D fp items guard St) {j:Nat} (st:St j h') (x:∀ b o, b ≠ I → h.get? b = some o → h'.get? b = some o):CInv c σf h₀ I C D St m acc j σ h' ∧ TupKeep h h':=by
 obtain ⟨oI, eI, nI⟩:=b.it.has i h v.st
 have t:TupKeep h h':=poke_tups (fun o e => by rw [eI] at e; cases e; exact nI) x
 exact ⟨⟨v.go.poke (X:=fun y => y = I) (b.xs v (.inl rfl)) t x, st, v.ns.at' fun o e => x C o b.IC.symm e, v.oI, v.oC, v.oD, v.acc.keep t fun o e => x D o b.ID.symm e⟩, t⟩
theorem CInv.pokeC (v:CInv c σf h₀ I C D St m acc i σ h) (b:CBase c env ρ σf h₀ I C D fp items guard St) {m':Str → Option Value} (nn:h'.Ns C m') (x:Heap.SameBut C h h'):CInv c σf h₀ I C D St m' acc i σ h' ∧ TupKeep h h':=by
 obtain ⟨oC, eC, nC⟩:=ns_at v.ns
 have t:TupKeep h h':=fun y o e q d => (x.2 y (fun z => by subst z; rw [eC] at e; cases e; exact nC d)).trans e
 exact ⟨⟨v.go.poke (X:=fun y => y = C) (b.xs v (.inr (.inl rfl))) t (sameBut_keep x), b.it.loc _ _ _ v.st (fun o e => (x.2 I b.IC).trans e) (fun y hy o e => (x.2 y (b.fpNe hy b.fC)).trans e) t, nn, v.oI, v.oC, v.oD,
  v.acc.keep t fun o e => (x.2 D b.CD.symm).trans e⟩, t⟩
theorem CInv.pokeD (v:CInv c σf h₀ I C D St m acc i σ h) (b:CBase c env ρ σf h₀ I C D fp items guard St) {acc':MObj} (x:Heap.SameBut D h h') (r:ObjR c h' D acc'):CInv c σf h₀ I C D St m acc' i σ h':=by
 obtain ⟨oD, eD⟩:=v.acc.at
 have t:TupKeep h h':=fun y o e q d => (x.2 y (fun z => by subst z; exact v.acc.notTup e q)).trans e
 exact ⟨v.go.poke (X:=fun y => y = D) (b.xs v (.inr (.inr rfl))) t (sameBut_keep x), b.it.loc _ _ _ v.st (fun o e => (x.2 I b.ID).trans e) (fun y hy o e => (x.2 y (b.fpNe hy b.fD)).trans e) t, v.ns.sameBut x b.CD, v.oI, v.oC, v.oD, r⟩
theorem CInv.tupsD (v:CInv c σf h₀ I C D St m acc i σ h) (x:Heap.SameBut D h h'):TupKeep h h':=fun y o e q d => (x.2 y (fun z => by subst z; exact v.acc.notTup e q)).trans e
theorem tests_run {ifs:List PySem.Expr} {cenv:Env} {kd:Kinds} {xs:List X} {Q:Bool → Store → Prop} {Q':Bool → Shared → Prop} {ρ':Loc} (hS:∀ e ∈ ifs, ST c Γ n e) (he:erL ifs kd = some xs) (kle:Kle kd cenv.kindOf)
  (hA:AOk A n) (k:Ok c σ s.heap) (R:EnvR c cenv ρ' σ s.heap) (h:wIfs Γ xs ρ' σ Q) (P:PostB c s σ Q Q') :
  wpAny (model c.prog c.w) A (forIn ifs true fun e r => if r = true then do let ok ← isTrue e cenv (eval e cenv); pure (ForInStep.yield ok) else pure (ForInStep.yield r)) Q' E s:=by
 cases ifs with
 | nil =>
  cases er_nil he
  rw [List.forIn_nil]
  exact wpAny_pure (P true σ s.heap s.toks (Go.refl k) h)
 | cons e r =>
  obtain ⟨x, e1, y, e2, rfl⟩:=er_cons he
  cases r with
  | nil =>
   cases er_nil e2
   rw [List.forIn_cons]
   simp only [if_true]
   refine wpAny_bind (wpAny_bind (wpAny_mono (hS e List.mem_cons_self cenv kd x e1 kle A E s σ ρ' Q (fun ok s₁ => Q' ok s₁) hA k R h P) (fun ok s₁ q => ?_) fun _ _ z => z))
   refine wpAny_pure ?_
   dsimp only
   rw [List.forIn_nil]
   exact wpAny_pure q
  | cons e' r' =>
   obtain ⟨x', e1', y', e2', rfl⟩:=er_cons e2
   exact (show False from h).elim
theorem drop_end {α:Type} {l:List α} {i:Nat} (h:l.drop i = []) (hi:i ≤ l.length):i = l.length:=Nat.le_antisymm hi (List.drop_eq_nil_iff.mp h)
theorem drop_step {α:Type} {l ys:List α} {i:Nat} {y:α} (h:l.drop i = y :: ys):i < l.length ∧ l[i]? = some y ∧ ys = l.drop (i + 1):=by
 have hi:i < l.length:=Nat.lt_of_not_le fun q => by rw [List.drop_of_length_le q] at h; exact nomatch h
 rw [List.drop_eq_getElem_cons hi] at h
 obtain ⟨h1, h2⟩:=List.cons.inj h
 exact ⟨hi, (List.getElem?_eq_getElem hi).trans (congrArg some h1), h2.symm⟩
noncomputable def CLoop {β:Type} (c:Cfg) (σf:Store) (h₀:Heap) (I C D:Addr) (St:Nat → Heap → Prop) (items:List V) (mk:β → MObj) (ln:β → Nat) (L:List V → β → Store → Prop) (s:Shared) (k:Nat) (s':Shared):Prop :=
 ∃ i acc σ m h tk, s' = { s with heap:=h, toks:=tk } ∧ k = items.length + 1 - i ∧ i ≤ items.length ∧ ln acc ≤ i ∧ CInv c σf h₀ I C D St m (mk acc) i σ h ∧ L (items.drop i) acc σ
theorem CLoop.next {β:Type} {mk:β → MObj} {ln:β → Nat} {L:List V → β → Store → Prop} {i tk:Nat} {acc:β} {m:Str → Option Value} (hi:i < items.length) (hl:ln acc ≤ i + 1) (v:CInv c σf h₀ I C D St m (mk acc) (i + 1) σ h) (hL:L (items.drop (i + 1)) acc σ) :
  ∃ k, k < items.length + 1 - i ∧ CLoop c σf h₀ I C D St items mk ln L s k { s with heap:=h, toks:=tk } :=
 ⟨_, Nat.sub_lt_sub_left (Nat.lt_succ_of_lt hi) (Nat.lt_succ_self i), i + 1, acc, σ, m, h, tk, rfl, rfl, hi, hl, v, hL⟩
theorem comp_turn {β:Type} {mk:β → MObj} {ln:β → Nat} {elt:β → Loc → Store → (β → Store → Prop) → Prop} {ifs:List PySem.Expr} {x:Str} {px:Pos} {sc:Scope} {kd:Kinds} {cl:List (Str × Addr)} {xifs:List X} {R:Shared → Prop} {QL:β → Store → Prop} {T:Shared → Prop} {k:Nat} {s':Shared} {P:Option Value → Shared → Prop} {E2:Value → Shared → Prop}
  (b:CBase c env ρ σf h₀ I C D fp items guard St) (ok:COk x sc kd) (kle:Kle kd env.kindOf)
  (hcl:∀ y a, cl.lookup y = some a → env.cells.lookup y = some a) (hcf:∀ p ∈ sc.names, p.2 = .free → ∃ a, cl.lookup p.1 = some a) (hOC:¬ Own env C)
  (hA:AOk A n) (hI:∀ e ∈ ifs, ST c Γ n e) (ei:erL ifs (scKinds sc) = some xifs)
  (hR:∀ acc σ h tk m, Go c σf h₀ σ h → h.Ns C m → σ D = none → σ C = none → ObjR c h D (mk acc) → guard σ → QL acc σ → R { s with heap:=h, toks:=tk })
  (p0:∀ {s₁}, R s₁ → P none s₁)
  (p1:∀ {v s₁}, wpAny (model c.prog c.w) A (assign (.Name x px) (compEnvC sc cl C env) v) (fun _ s₂ =>
        wpAny (model c.prog c.w) A (forIn ifs true fun e r => if r = true then do let ok ← isTrue e (compEnvC sc cl C env) (eval e (compEnvC sc cl C env)); pure (ForInStep.yield ok) else pure (ForInStep.yield r)) (fun ok s₃ =>
          if ok = true then T s₃ else ∃ m, m < k ∧ CLoop c σf h₀ I C D St items mk ln (fun l acc σ => compLoop guard (fun ρ' σ' Q' => wIfs Γ xifs ρ' σ' Q') elt x ρ l acc σ QL) s m s₃) E2 s₂) E2 s₁ → P (some v) s₁)
  (hT:∀ {i acc y σ m h tk}, k = items.length + 1 - i → i < items.length → ln acc ≤ i → CInv c σf h₀ I C D St m (mk acc) (i + 1) σ h → EnvR c (compEnvC sc cl C env) (ρ.set x y) σ h →
   elt acc (ρ.set x y) σ (fun acc' σ' => compLoop guard (fun ρ' σ' Q' => wIfs Γ xifs ρ' σ' Q') elt x ρ (items.drop (i + 1)) acc' σ' QL) → T { s with heap:=h, toks:=tk })
  (H:CLoop c σf h₀ I C D St items mk ln (fun l acc σ => compLoop guard (fun ρ' σ' Q' => wIfs Γ xifs ρ' σ' Q') elt x ρ l acc σ QL) s k s') :
  wpAny (model c.prog c.w) A (pyNext (.ref I)) P E s':=by
 obtain ⟨i, acc, σ, m, h, tk, rfl, rfl, hi, hacc, v, hL⟩:=H
 cases hd:items.drop i with
 | nil =>
  rw [hd] at hL
  refine b.it.done A _ σ _ _ hA.1 v.go.ok hL.1 (drop_end hd hi ▸ v.st) fun h' tk' kp => p0 ?_
  obtain ⟨oI, eI, nI⟩:=b.it.has i h v.st
  have t:TupKeep h h':=poke_tups (fun o e => by rw [eI] at e; cases e; exact nI) kp
  exact hR acc σ h' tk' m (v.go.poke (X:=fun y => y = I) (b.xs v (.inl rfl)) t kp) (v.ns.at' fun o e => kp C o b.IC.symm e) v.oD v.oC (v.acc.keep t fun o e => kp D o b.ID.symm e) hL.1 hL.2
 | cons y ys =>
  obtain ⟨hlt, hy, rfl⟩:=drop_step hd
  rw [hd] at hL
  obtain ⟨gd, hL⟩:=hL
  have kC:(compEnvC sc cl C env).kindOf x = some .local:=(lookup_relabel ..).trans (by rw [ok.isx]; rfl)
  refine b.it.item i A _ σ y _ _ hA.1 v.go.ok gd v.st hy fun val h₁ tk₁ hv st₁ kp => p1 ?_
  obtain ⟨v₁, t₁⟩:=v.pokeI b st₁ kp
  refine wpAny_assign_Name (wpAny_storeName_local kC v₁.ns (fun h₂ hn₂ hs₂ => ?_) (by simp [compEnvC, relabel, ok.kind]))
  obtain ⟨v₂, t₂⟩:=v₁.pokeC b hn₂ hs₂
  have R₂:EnvR c (compEnvC sc cl C env) (ρ.set x y) σ h₂:=compEnvR (b.R0.go b.k0 v₂.go) ok kle hcl hcf ⟨v₂.oC, (b.k0.fresh b.fC).1, hOC⟩ v₂.ns (by simp) ((hv.keep t₁).keep t₂)
  refine tests_run hI ei compKle hA v₂.go.ok R₂ hL fun bb σ₃ h₃ tk₃ g₃ q => ?_
  cases bb with
  | false => exact CLoop.next hlt (Nat.le_succ_of_le hacc) (v₂.body b g₃) q
  | true => exact hT rfl hlt hacc (v₂.body b g₃) (R₂.go v₂.go.ok g₃) q
theorem lcomp_loop {elt iter:PySem.Expr} {ifs:List PySem.Expr} {x:Str} {px:Pos} {sc:Scope} {pos:Pos} {kd:Kinds} {cl:List (Str × Addr)} {xe:X} {xifs:List X} {R:Result → Shared → Prop} {QL:List V → Store → Prop}
  (W:CfgOk c) (b:CBase c env ρ σf h₀ I C D fp items guard St) (ok:COk x sc kd) (kle:Kle kd env.kindOf)
  (hcl:∀ y a, cl.lookup y = some a → env.cells.lookup y = some a) (hcf:∀ p ∈ sc.names, p.2 = .free → ∃ a, cl.lookup p.1 = some a) (hOC:¬ Own env C)
  (hA:AOk A n) (hE:SX c Γ n elt) (hI:∀ e ∈ ifs, ST c Γ n e) (ee:er elt (scKinds sc) = some xe) (ei:erL ifs (scKinds sc) = some xifs) (hlen:items.length ≤ 1000)
  (v:CInv c σf h₀ I C D St m (.list []) 0 σf s.heap)
  (hL:compLoop guard (fun ρ' σ' Q' => wIfs Γ xifs ρ' σ' Q') (fun (acc:List V) ρ' σ' Q' => wX Γ xe ρ' σ' fun v σ'' => Q' (acc ++ [v]) σ'') x ρ items [] σf QL)
  (hR:∀ acc σ h tk m, Go c σf h₀ σ h → h.Ns C m → σ D = none → σ C = none → ObjR c h D (.list acc) → guard σ → QL acc σ → R (.ok .next) { s with heap:=h, toks:=tk }) :
  codeAny (model c.prog c.w) A (.compLoop (.ListComp elt [⟨.Name x px, iter, ifs, 0⟩] sc pos) 0 (.ref I) (.ref D) (compEnvC sc cl C env)) R s:=by
 refine codeAny_compLoop_tests (CLoop c σf h₀ I C D St items .list List.length (fun l acc σ => compLoop guard (fun ρ' σ' Q' => wIfs Γ xifs ρ' σ' Q') (fun (acc:List V) ρ' σ' Q' => wX Γ xe ρ' σ' fun v σ'' => Q' (acc ++ [v]) σ'') x ρ l acc σ QL) s)
  (fun k s' H => comp_turn b ok kle hcl hcf hOC hA hI ei hR (fun h => h) (fun h => h) (fun hk hlt hacc v R₃ q => ?_) H) (items.length + 1) ⟨0, [], σf, m, s.heap, s.toks, rfl, rfl, Nat.zero_le _, Nat.le_refl _, v, hL⟩
 subst hk
 refine hE _ _ xe ee compKle A _ _ _ _ _ _ hA v.go.ok R₃ q fun u σ₄ uv h₄ tk₄ g₄ ru q₄ => ?_
 have v₄:=v.body b g₄
 obtain ⟨us, cnt, hl, hx⟩:=v₄.acc
 refine call_meets PySem.F.slot_list_append ⟨_, hl, rfl⟩ PySem.F.entry_list_append (PySem.F.args_list_append_2 _ _) (PySem.list_append _ us.toArray cnt uv (by have:=hx.length; rw [List.size_toArray, sizeLine_eq]; omega)) ⟨hl, ?_⟩
 have hs:=Heap.SameBut.update h₄ D (Obj.mapSeq fun xs => xs.push uv)
 have hu:=Heap.get?_update_self (Obj.mapSeq fun xs => xs.push uv) hl rfl
 exact CLoop.next hlt (by rw [List.length_append]; exact Nat.succ_le_succ hacc) (v₄.pokeD b hs ⟨us ++ [uv], cnt + 1, by simpa [Obj.mapSeq] using hu, (hx.append (.one ru)).keep (v₄.tupsD hs)⟩) q₄
end
end Mini
end
section
namespace Mini
open PySem PySem.W PyProof.Rows
section
variable {c:Cfg} {Γ:GE} {n:Nat} {A:Around} {E:Value → Shared → Prop} {s:Shared} {env:Env} {ρ:Loc}
theorem aset_len {K α:Type} [DecidableEq K] (es:List (K × α)) (k:K) (v:α):(aset es k v).length ≤ es.length + 1:=by
 unfold aset; split
 ·simp
 ·simp
theorem r_dictSet {d:Addr} {es:List (Key × V)} {key:Key} {kV v:V} {kv vv:Value} {Q:Unit → Shared → Prop} (hA:A.units < cLine) (D:DictR c s.heap d es) (nt:∀ h', Heap.SameBut d s.heap h' → TupKeep s.heap h')
  (hk:kV.key? = some key) (one:∀ e ∈ es, e.1.isTp = key.isTp) (hz:es.length ≤ 100000) (rk:VR s.heap kV kv) (rv:VR s.heap v vv)
  (P:∀ h' tk, DictR c h' d (aset es key v) → Heap.SameBut d s.heap h' → Q () { s with heap:=h', toks:=tk }):wpAny (model c.prog c.w) A (dictSet d kv vv) Q E s:=by
 rcases mapOf_lookR D one rk hk with ⟨at', kvs, rfl, h1, h2, h3⟩ | ⟨l, ad, xs, rfl, rfl, h1, h2, h3, h4, h5⟩
 ·refine wpAny_dictSet_pairs h1 h2 (fun h' hd hs => P h' _ (Or.inl ⟨_, hd, ?_⟩) hs) (by rw [← h3.length, sizeLine_eq]; omega)
  have t:=nt _ hs
  exact F2.aset1 (h3.imp fun _ _ ⟨q1, q2⟩ => ⟨q1, q2.keep t⟩) _ (rv.keep t)
 ·refine wpAny_dictSet_heap hA h1 h2 (fun h' hd hs => P h' _ (Or.inr ⟨_, hd, ?_, ?_⟩) hs) (by rw [← h3.length, sizeLine_eq]; omega)
  ·have t:=nt _ hs
   exact F2.asetH (h3.imp fun _ _ ⟨q1, q2⟩ => ⟨q1, q2.keep t⟩) _ _ (rv.keep t)
  ·intro y hy
   have t:=nt _ hs
   have keep:∀ {a:Addr}, (∃ its n, IsT s.heap a its n) → ∃ its n, IsT h' a its n:=fun ⟨its, n, q⟩ => ⟨its, n, t _ _ q rfl ⟨_, _, rfl⟩⟩
   unfold storedH at hy
   split at hy
   ·obtain ⟨z, hz1, rfl⟩:=List.mem_map.mp hy
    have:(putAt l vv z).2.1 = z.2.1:=by unfold putAt; split <;> rfl
    rw [this]; exact keep (h4 z hz1)
   ·rcases List.mem_append.mp hy with hy | hy
    ·exact keep (h4 y hy)
    ·rw [List.mem_singleton.mp hy]; exact keep h5
variable {σf σ σ':Store} {h₀ h h':Heap} {I C D:Addr} {fp:List Addr} {items:List V} {guard:Store → Prop} {St:Nat → Heap → Prop} {m:Str → Option Value} {acc:MObj} {i:Nat}
noncomputable abbrev dElt (Γ:GE) (xk xv:X) (acc:List (Key × V)) (ρ':Loc) (σ':Store) (Q':List (Key × V) → Store → Prop):Prop :=
 wX Γ xk ρ' σ' fun kv σ'' => wX Γ xv ρ' σ'' fun v σ₃ => ∃ key, kv.key? = some key ∧ (∀ e ∈ acc, e.1.isTp = key.isTp) ∧ Q' (aset acc key v) σ₃
theorem dcomp_loop {ek ev iter:PySem.Expr} {ifs:List PySem.Expr} {x:Str} {px:Pos} {sc:Scope} {pos:Pos} {kd:Kinds} {cl:List (Str × Addr)} {xk xv:X} {xifs:List X} {R:Result → Shared → Prop} {QL:List (Key × V) → Store → Prop}
  (W:CfgOk c) (b:CBase c env ρ σf h₀ I C D fp items guard St) (ok:COk x sc kd) (kle:Kle kd env.kindOf)
  (hcl:∀ y a, cl.lookup y = some a → env.cells.lookup y = some a) (hcf:∀ p ∈ sc.names, p.2 = .free → ∃ a, cl.lookup p.1 = some a) (hOC:¬ Own env C)
  (hA:AOk A n) (hK:SX c Γ n ek) (hV:SX c Γ n ev) (hI:∀ e ∈ ifs, ST c Γ n e) (eek:er ek (scKinds sc) = some xk) (eev:er ev (scKinds sc) = some xv) (ei:erL ifs (scKinds sc) = some xifs) (hlen:items.length ≤ 1000)
  (v:CInv c σf h₀ I C D St m (.dict []) 0 σf s.heap)
  (hL:compLoop guard (fun ρ' σ' Q' => wIfs Γ xifs ρ' σ' Q') (dElt Γ xk xv) x ρ items [] σf QL)
  (hR:∀ acc σ h tk m, Go c σf h₀ σ h → h.Ns C m → σ D = none → σ C = none → ObjR c h D (.dict acc) → guard σ → QL acc σ → R (.ok .next) { s with heap:=h, toks:=tk }) :
  codeAny (model c.prog c.w) A (.compLoop (.DictComp ek ev [⟨.Name x px, iter, ifs, 0⟩] sc pos) 0 (.ref I) (.ref D) (compEnvC sc cl C env)) R s:=by
 refine codeAny_compLoop_testsD (CLoop c σf h₀ I C D St items .dict List.length (fun l acc σ => compLoop guard (fun ρ' σ' Q' => wIfs Γ xifs ρ' σ' Q') (dElt Γ xk xv) x ρ l acc σ QL) s)
  (fun k s' H => comp_turn b ok kle hcl hcf hOC hA hI ei hR (fun h => h) (fun h => h) (fun hk hlt hacc v R₃ q => ?_) H) (items.length + 1) ⟨0, [], σf, m, s.heap, s.toks, rfl, rfl, Nat.zero_le _, Nat.le_refl _, v, hL⟩
 subst hk
 refine hK _ _ xk eek compKle A _ _ _ _ _ _ hA v.go.ok R₃ q fun u σ₄ uv h₄ tk₄ g₄ ru q₄ => ?_
 have v₄:=v.body b g₄
 refine hV _ _ xv eev compKle A _ _ σ₄ _ _ _ hA v₄.go.ok (R₃.go v.go.ok g₄) q₄ fun u' σ₅ uv' h₅ tk₅ g₅ ru' ⟨key, hk, one, q₅⟩ => ?_
 have v₅:=v₄.body b g₅
 exact r_dictSet hA.units v₅.acc (fun h' hs => v₅.tupsD hs) hk one (Nat.le_trans hacc (Nat.le_trans (Nat.le_of_lt hlt) (Nat.le_trans hlen (by decide)))) (g₅.vr v₄.go.ok ru) ru' fun h₆ tk₆ D₆ hs => CLoop.next hlt (Nat.le_trans (aset_len _ key u') (Nat.succ_le_succ hacc)) (v₅.pokeD b hs D₆) q₅
end
end Mini
end
section
namespace Mini
open PySem PySem.W PyProof.Rows
section
variable {c:Cfg} {Γ:GE} {n:Nat} {A:Around} {E:Value → Shared → Prop} {s:Shared} {env:Env} {ρ:Loc} {σ σf σ':Store} {unf:Store → Store} {guard:Store → Prop} {h h':Heap}
theorem Fz.envR (z:Fz σ σf unf guard) (R:EnvR c env ρ σ h):EnvR c env ρ σf h :=
 ⟨R.fn, R.glb, R.blt, R.loc, R.cell, ⟨z.noneOff R.offL.1, R.offL.2⟩, fun x a q => let ⟨q1, q2⟩:=R.offC x a q; ⟨z.noneOff q1, q2⟩, R.apart⟩
theorem EnvR.own_some (R:EnvR c env ρ σ h) {b:Addr} (w:Own env b):∃ o, h.get? b = some o:=by
 rcases w with rfl | ⟨x, q⟩
 ·obtain ⟨m, ⟨o, _, _, e, _⟩, _⟩:=R.loc; exact ⟨o, e⟩
 ·obtain ⟨_, _, _, u, o, e, _⟩:=R.offC x b q; exact ⟨o, e⟩
theorem EnvR.notOwn (R:EnvR c env ρ σ h) {b:Addr} (q:h.objs.size ≤ b):¬ Own env b:=fun w => by
 obtain ⟨o, e⟩:=R.own_some w; rw [get?_ge q] at e; cases e
theorem folded_of {it:PySem.Expr} {kd:Kinds} {x:X} (e:er it kd = some x):∀ v, foldedSetIterable it env v = pure v:=by
 intro v
 cases it <;> first | rfl | exact nomatch e
theorem COk.closure {x:Str} {sc:Scope} {kd:Kinds} (ok:COk x sc kd) (kle:Kle kd env.kindOf) (R:EnvR c env ρ σ h) :
  ∃ cl, closureFor sc env = pure cl ∧ (∀ y a, cl.lookup y = some a → env.cells.lookup y = some a) ∧ ∀ p ∈ sc.names, p.2 = .free → ∃ a, cl.lookup p.1 = some a:=by
 refine closure_of fun p hp q => ?_
 have cf:=kle.cf _ (ok.free p hp q).1
 have cf':env.kindOf p.1 = some .cell ∨ env.kindOf p.1 = some .free:=by
  cases q:env.kindOf p.1 with
  | none => rw [q] at cf; cases cf
  | some k => rw [q] at cf; cases k <;> first | exact .inl rfl | exact .inr rfl | cases cf
 obtain ⟨a, u, z1, _⟩:=R.cell p.1 cf'
 exact ⟨a, z1⟩
theorem comp_laid {items:List V} {fp:List Addr} {St:Nat → Heap → Prop} {o oD:Obj} {acc:MObj} (k0:Ok c σf h) (R0:EnvR c env ρ σf h) (it:ItK c h.objs.size fp items guard St)
  (st0:∀ h', (∀ b o', h.get? b = some o' → h'.get? b = some o') → h'.get? h.objs.size = some o → St 0 h') (fpk:∀ b ∈ fp, Mut σf b = false ∧ (σf b).isSome = true ∧ ∃ o, h.get? b = some o) (no:o.isFreed = false) (nD:oD.isFreed = false)
  {h₃:Heap} {m:Str → Option Value} {oC:Obj} (hC:h₃.Ns ((h.push o).push oD).objs.size m) (hs:Heap.SameBut ((h.push o).push oD).objs.size (((h.push o).push oD).push oC) h₃)
  (hacc:∀ h', h'.get? (h.push o).objs.size = some oD → ObjR c h' (h.push o).objs.size acc) :
  CBase c env ρ σf h h.objs.size ((h.push o).push oD).objs.size (h.push o).objs.size fp items guard St ∧ CInv c σf h h.objs.size ((h.push o).push oD).objs.size (h.push o).objs.size St m acc 0 σf h₃:=by
 have s1:(h.push o).objs.size = h.objs.size + 1:=Heap.size_push ..
 have s2:((h.push o).push oD).objs.size = h.objs.size + 1 + 1:=by rw [Heap.size_push, s1]
 have kp:∀ b o', h.get? b = some o' → h₃.get? b = some o':=fun b o' e => by
  have:=Heap.lt_size e
  have ne:b ≠ ((h.push o).push oD).objs.size:=fun z => by rw [s2] at z; rw [z] at this; exact absurd this (Nat.not_lt.mpr (Nat.le_succ_of_le (Nat.le_succ _)))
  rw [hs.2 b ne]
  exact Heap.get?_push_of_some _ (Heap.get?_push_of_some _ (Heap.get?_push_of_some _ e))
 have kI:h₃.get? h.objs.size = some o:=by
  rw [hs.2 _ (by rw [s2]; intro z; have:h.objs.size + 1 + 1 = h.objs.size:=z.symm; omega)]
  exact Heap.get?_push_of_some _ (Heap.get?_push_of_some _ (Heap.get?_push_size _ no))
 have kD:h₃.get? (h.push o).objs.size = some oD:=by
  rw [hs.2 _ (by rw [s2, s1]; intro z; have:h.objs.size + 1 + 1 = h.objs.size + 1:=z.symm; omega)]
  exact Heap.get?_push_of_some _ (Heap.get?_push_size _ nD)
 refine ⟨⟨k0, R0, it, Nat.le_refl _, by rw [s2]; exact Nat.le_succ_of_le (Nat.le_succ _), by rw [s1]; exact Nat.le_succ _, ?_, ?_, ?_, fpk⟩, Go.grow' k0 kp, st0 _ kp kI, hC, k0.free (Nat.le_refl _), k0.free (by rw [s2]; exact Nat.le_succ_of_le (Nat.le_succ _)), k0.free (by rw [s1]; exact Nat.le_succ _), hacc _ kD⟩
 ·rw [s2]; intro z; have:h.objs.size + 1 + 1 = h.objs.size:=z.symm; omega
 ·rw [s1]; intro z; have:h.objs.size + 1 = h.objs.size:=z.symm; omega
 ·rw [s2, s1]; intro z; have:h.objs.size + 1 + 1 = h.objs.size + 1:=z; omega
theorem newDictR {h:Heap} {D:Addr} (e:h.get? D = some { cls:=.type "dict", data:=.dict #[] }):ObjR c h D (.dict []) :=
 Or.inl ⟨[], ⟨_, #[], 0, e, ⟨rfl, rfl, rfl⟩, rfl, fun e he => by simp at he, .nil, List.nodup_nil⟩, .nil⟩
theorem lcomp_gen {elt it:PySem.Expr} {x:Str} {px:Pos} {ifs:List PySem.Expr} {as:Int} {sc:Scope} {pos:Pos} (W:CfgOk c) (hIt:SI c Γ n it) (hE:SX c Γ n elt) (hI:∀ e ∈ ifs, ST c Γ n e) {env:Env} {kd:Kinds} {xx:X} (he:er (.ListComp elt [⟨.Name x px, it, ifs, as⟩] sc pos) kd = some xx) (kle:Kle kd env.kindOf) {A:Around} {E} {s:Shared} {σ:Store} {ρ:Loc} {Q:V → Store → Prop} {Q':Value → Shared → Prop}
  {use:Option (Value → Sem Unit)} (hA:AOk A n) (k:Ok c σ s.heap) (R:EnvR c env ρ σ s.heap) (h:wX Γ xx ρ σ Q)
  (P:∀ D C σ' h' tk m, Go c σ s.heap σ' h' → Q (.ref D) σ' → h'.Ns C m → σ' C = none → c.base.get? C = none → s.heap.objs.size ≤ C ∨ s.heap.get? C = none → ¬ Own env C → compPost (model c.prog c.w) A E use Q' (.ref D) C (.ok .next) { s with heap:=h', toks:=tk }) :
  wpAny (model c.prog c.w) A (comprehension (.ListComp elt [⟨.Name x px, it, ifs, as⟩] sc pos) sc env (firstIterPos [⟨.Name x px, it, ifs, as⟩] pos) (newList []) (firstAsync [⟨.Name x px, it, ifs, as⟩]) (eval it env) use) Q' E s:=by
 obtain ⟨q0, hok, xit, e3, xifs, e4, xe, e5, rfl⟩:=er_lcomp he
 obtain rfl:=eq_of_beq (Bool.and_eq_true_iff.mp q0).1
 have ok:=COk.of hok
 obtain ⟨cl, hclos, hcl, hcf⟩:=ok.closure kle R
 refine wpAny_comprehension_free (use:=use) (cl:=cl) (g:=⟨.Name x px, it, ifs, 0⟩) (gs:=[]) rfl (folded_of e3) hclos ok.kind (fun p hp q => (ok.loc p hp q).2) ?_
 refine hIt env kd xit e3 kle A _ s σ ρ _ _ hA k R h fun σ₁ val h₁ tk₁ g₁ iv => ?_
 refine r_pyIter W (s:={ s with heap:=h₁, toks:=tk₁ }) g₁.ok iv fun items guard σf unf o fp St z no itk st0 fpk hq => ?_
 have R1:=R.go k g₁
 have k0:=z.ok g₁.ok
 refine wpAny_newObj_type (wpAny_newFunctionEnv (fun p hp q => by rcases ok.only p hp with z | z | z <;> rw [q] at z <;> cases z) (by intro y hy; simp at hy) (fun h₃ hns hsb => ?_) ok.kind)
 obtain ⟨b, v⟩:=comp_laid (acc:=.list []) k0 (z.envR R1) itk st0 fpk no rfl hns hsb (fun h' e => ⟨[], 0, e, by rfl⟩)
 have loop:codeAny (model c.prog c.w) A (.compLoop (.ListComp elt [⟨.Name x px, it, ifs, 0⟩] sc pos) 0 (.ref h₁.objs.size) (.ref (h₁.push o).objs.size) (compEnvC sc cl ((h₁.push o).push { cls:=.type "list", data:=.seq #[] }).objs.size env))
   (compPost (model c.prog c.w) A E use Q' (.ref (h₁.push o).objs.size) ((h₁.push o).push { cls:=.type "list", data:=.seq #[] }).objs.size) { s with heap:=h₃, toks:=tk₁ + 0 }:=by
  refine lcomp_loop W b ok kle hcl hcf (R1.notOwn b.fC) hA hE hI e5 e4 hq.1 v hq.2 fun acc σ₂ h₂ tk m g ns oD oC' obj gd ql => ?_
  have g₂:=z.go g₁.ok g gd
  have ne:((h₁.push o).push { cls:=.type "list", data:=.seq #[] }).objs.size ≠ (h₁.push o).objs.size:=b.CD
  refine P _ _ _ h₂ tk m (g₁.trans (g₂.adopt (o:=.list acc) b.fD g₁.ok obj)) (ql _ (z.noneBack (g₁.ok.free b.fD) oD)) ns ?_ (k0.fresh b.fC).1 (.inr ?_) (R1.notOwn b.fC)
  ·rw [set_ne ne]; exact z.noneBack (g₁.ok.free b.fC) oC'
  ·cases q:s.heap.get? ((h₁.push o).push { cls:=.type "list", data:=.seq #[] }).objs.size with
   | none => rfl
   | some ob =>
    obtain ⟨o', q'⟩:=g₁.stay _ _ q
    rw [get?_ge b.fC] at q'; cases q'
 exact codeAny_compStart_list loop (itk.self 0 _ _ _ _ v.st loop)
theorem sx_lcomp {elt it:PySem.Expr} {x:Str} {px:Pos} {ifs:List PySem.Expr} {as:Int} {sc:Scope} {pos:Pos} (W:CfgOk c) (hIt:SI c Γ n it) (hE:SX c Γ n elt) (hI:∀ e ∈ ifs, ST c Γ n e):SX c Γ n (.ListComp elt [⟨.Name x px, it, ifs, as⟩] sc pos):=by
 intro env kd xx he kle A E s σ ρ Q Q' hA k R h P
 refine lcomp_gen (use:=none) W hIt hE hI he kle hA k R h fun D C σ' h₂ tk m g q ns oC bC fC _ => ?_
 refine ⟨m, ns, fun h' hs' => ?_⟩
 obtain ⟨oC', eC, nC⟩:=ns_at ns
 have t:TupKeep h₂ h':=fun y o e q d => (hs'.2 y (fun z => by subst z; rw [eC] at e; cases e; exact nC d)).trans e
 exact P (.ref D) σ' _ h' tk (g.poke (X:=fun y => y = C) (by rintro y rfl; exact ⟨oC, fC.elim get?_ge id, bC⟩) t (sameBut_keep hs')) rfl q
theorem dcomp_gen {ek ev it:PySem.Expr} {x:Str} {px:Pos} {ifs:List PySem.Expr} {as:Int} {sc:Scope} {pos:Pos} (W:CfgOk c) (hIt:SI c Γ n it) (hK:SX c Γ n ek) (hV:SX c Γ n ev) (hI:∀ e ∈ ifs, ST c Γ n e) {env:Env} {kd:Kinds} {xx:X} (he:er (.DictComp ek ev [⟨.Name x px, it, ifs, as⟩] sc pos) kd = some xx) (kle:Kle kd env.kindOf) {A:Around} {E} {s:Shared} {σ:Store} {ρ:Loc} {Q:V → Store → Prop} {Q':Value → Shared → Prop}
  {use:Option (Value → Sem Unit)} (hA:AOk A n) (k:Ok c σ s.heap) (R:EnvR c env ρ σ s.heap) (h:wX Γ xx ρ σ Q)
  (P:∀ D C σ' h' tk m, Go c σ s.heap σ' h' → Q (.ref D) σ' → h'.Ns C m → σ' C = none → c.base.get? C = none → s.heap.objs.size ≤ C ∨ s.heap.get? C = none → ¬ Own env C → compPost (model c.prog c.w) A E use Q' (.ref D) C (.ok .next) { s with heap:=h', toks:=tk }) :
  wpAny (model c.prog c.w) A (comprehension (.DictComp ek ev [⟨.Name x px, it, ifs, as⟩] sc pos) sc env (firstIterPos [⟨.Name x px, it, ifs, as⟩] pos) (newDict) (firstAsync [⟨.Name x px, it, ifs, as⟩]) (eval it env) use) Q' E s:=by
 obtain ⟨q0, hok, xit, e3, xifs, e4, xk, e5, xv, e6, rfl⟩:=er_dcomp he
 obtain rfl:=eq_of_beq (Bool.and_eq_true_iff.mp q0).1
 have ok:=COk.of hok
 obtain ⟨cl, hclos, hcl, hcf⟩:=ok.closure kle R
 refine wpAny_comprehension_free (use:=use) (cl:=cl) (g:=⟨.Name x px, it, ifs, 0⟩) (gs:=[]) rfl (folded_of e3) hclos ok.kind (fun p hp q => (ok.loc p hp q).2) ?_
 refine hIt env kd xit e3 kle A _ s σ ρ _ _ hA k R h fun σ₁ val h₁ tk₁ g₁ iv => ?_
 refine r_pyIter W (s:={ s with heap:=h₁, toks:=tk₁ }) g₁.ok iv fun items guard σf unf o fp St z no itk st0 fpk hq => ?_
 have R1:=R.go k g₁
 have k0:=z.ok g₁.ok
 refine wpAny_newObj_type (wpAny_newFunctionEnv (fun p hp q => by rcases ok.only p hp with z | z | z <;> rw [q] at z <;> cases z) (by intro y hy; simp at hy) (fun h₃ hns hsb => ?_) ok.kind)
 obtain ⟨b, v⟩:=comp_laid (acc:=.dict []) k0 (z.envR R1) itk st0 fpk no rfl hns hsb (fun h' e => newDictR e)
 have loop:codeAny (model c.prog c.w) A (.compLoop (.DictComp ek ev [⟨.Name x px, it, ifs, 0⟩] sc pos) 0 (.ref h₁.objs.size) (.ref (h₁.push o).objs.size) (compEnvC sc cl ((h₁.push o).push { cls:=.type "dict", data:=.dict #[] }).objs.size env))
   (compPost (model c.prog c.w) A E use Q' (.ref (h₁.push o).objs.size) ((h₁.push o).push { cls:=.type "dict", data:=.dict #[] }).objs.size) { s with heap:=h₃, toks:=tk₁ + 0 }:=by
  refine dcomp_loop W b ok kle hcl hcf (R1.notOwn b.fC) hA hK hV hI e5 e6 e4 hq.1 v hq.2 fun acc σ₂ h₂ tk m g ns oD oC' obj gd ql => ?_
  have g₂:=z.go g₁.ok g gd
  have ne:((h₁.push o).push { cls:=.type "dict", data:=.dict #[] }).objs.size ≠ (h₁.push o).objs.size:=b.CD
  refine P _ _ _ h₂ tk m (g₁.trans (g₂.adopt (o:=.dict acc) b.fD g₁.ok obj)) (ql _ (z.noneBack (g₁.ok.free b.fD) oD)) ns ?_ (k0.fresh b.fC).1 (.inr ?_) (R1.notOwn b.fC)
  ·rw [set_ne ne]; exact z.noneBack (g₁.ok.free b.fC) oC'
  ·cases q:s.heap.get? ((h₁.push o).push { cls:=.type "dict", data:=.dict #[] }).objs.size with
   | none => rfl
   | some ob =>
    obtain ⟨o', q'⟩:=g₁.stay _ _ q
    rw [get?_ge b.fC] at q'; cases q'
 exact codeAny_compStart_dict loop (itk.self 0 _ _ _ _ v.st loop)
theorem sx_dcomp {ek ev it:PySem.Expr} {x:Str} {px:Pos} {ifs:List PySem.Expr} {as:Int} {sc:Scope} {pos:Pos} (W:CfgOk c) (hIt:SI c Γ n it) (hK:SX c Γ n ek) (hV:SX c Γ n ev) (hI:∀ e ∈ ifs, ST c Γ n e):SX c Γ n (.DictComp ek ev [⟨.Name x px, it, ifs, as⟩] sc pos):=by
 intro env kd xx he kle A E s σ ρ Q Q' hA k R h P
 refine dcomp_gen (use:=none) W hIt hK hV hI he kle hA k R h fun D C σ' h₂ tk m g q ns oC bC fC _ => ?_
 refine ⟨m, ns, fun h' hs' => ?_⟩
 obtain ⟨oC', eC, nC⟩:=ns_at ns
 have t:TupKeep h₂ h':=fun y o e q d => (hs'.2 y (fun z => by subst z; rw [eC] at e; cases e; exact nC d)).trans e
 exact P (.ref D) σ' _ h' tk (g.poke (X:=fun y => y = C) (by rintro y rfl; exact ⟨oC, fC.elim get?_ge id, bC⟩) t (sameBut_keep hs')) rfl q
end
end Mini
end
section
namespace Mini
open PySem PySem.W PyProof.Rows
section
variable {c:Cfg} {Γ:GE} {n:Nat}
theorem SX.run {e:PySem.Expr} (S:SX c Γ n e) {env:Env} {kd:Kinds} {x:X} (he:er e kd = some x) (kle:Kle kd env.kindOf) {A:Around} {E} {s:Shared} {σ:Store} {ρ:Loc} {Q:V → Store → Prop} {Q':Value → Shared → Prop}
  (hA:AOk A n) (k:Ok c σ s.heap) (R:EnvR c env ρ σ s.heap) (h:wX Γ x ρ σ Q) (P:PostV c s σ Q Q'):wpAny (model c.prog c.w) A (eval e env) Q' E s:=S env kd x he kle A E s σ ρ Q Q' hA k R h P
noncomputable def PostVs (c:Cfg) (s:Shared) (σ:Store) (m:Nat) (Q:List V → Store → Prop) (Q':List Value → Shared → Prop):Prop :=
 ∀ vs σ' vals h' tk', Go c σ s.heap σ' h' → VRs h' vs vals → vs.length = m → Q vs σ' → Q' vals { s with heap:=h', toks:=tk' }
theorem step2 {s:Shared} {σ σ₁:Store} {h₁:Heap} {tk₁:Nat} {Q:V → Store → Prop} {Q':Value → Shared → Prop} (g:Go c σ s.heap σ₁ h₁) (P:PostV c s σ Q Q'):PostV c { s with heap:=h₁, toks:=tk₁ } σ₁ Q Q' :=
 fun v σ' val h' tk' g' r q => P v σ' val h' tk' (g.trans g') r q
theorem sx_const {cst:Const} {kk:Nat} {pos:Pos}:SX c Γ n (.Constant cst kk pos):=by
 intro env kd x he kle A E s σ ρ Q Q' hA k R h P
 cases cst with
 | none => cases he; exact wpAny_pure (P.here k (show VR s.heap .none .none from rfl) h)
 | bool b => cases he; exact wpAny_pure (P.here k (show VR s.heap (.bool _) _ from rfl) h)
 | int i => cases he; exact wpAny_mkInt (P.same k (.int _ _ _) h _)
 | str v => cases he; exact fun Γ' p hΓ => P.same k (.str _ _ s.toks) h (s.toks + 1)
 | _ => exact nomatch he
theorem er_Name {id:Str} {pos:Pos} {kd:Kinds} {x:X} (he:er (.Name id pos) kd = some x) :
  (id == ("__debug__":Str)) = false ∧ (id == ("__classdict__":Str)) = false ∧ (id == (".0":Str)) = false ∧ ((isVarK (kd id) = true ∧ x = .var id) ∨ (isGlobK (kd id) = true ∧ x = .glob id)):=by
 have he:(if (id == ("__debug__":Str) || id == ("__classdict__":Str) || id == (".0":Str)) = true then none else if isVarK (kd id) = true then some (X.var id) else if isGlobK (kd id) = true then some (.glob id) else none) = some x:=he
 cases q1:id == ("__debug__":Str) with
 | true => rw [q1] at he; exact nomatch he
 | false =>
  cases q2:id == ("__classdict__":Str) with
  | true => rw [q1, q2] at he; exact nomatch he
  | false =>
   cases q3:id == (".0":Str) with
   | true => rw [q1, q2, q3] at he; exact nomatch he
   | false =>
    rw [q1, q2, q3] at he
    refine ⟨rfl, rfl, rfl, ?_⟩
    cases z:isVarK (kd id) with
    | true => rw [z] at he; exact .inl ⟨rfl, (Option.some.inj he).symm⟩
    | false =>
     rw [z] at he
     cases z2:isGlobK (kd id) with
     | true => rw [z2] at he; exact .inr ⟨rfl, (Option.some.inj he).symm⟩
     | false => rw [z2] at he; exact nomatch he
theorem sx_name {id:Str} {pos:Pos} (W:CfgOk c) (G:GOk c n Γ):SX c Γ n (.Name id pos):=by
 intro env kd x he kle A E s σ ρ Q Q' hA k R h P
 obtain ⟨d1, d2, d3, q⟩:=er_Name he
 rcases q with ⟨q, rfl⟩ | ⟨q, rfl⟩
 ·obtain ⟨v, hv, hq⟩:=h
  exact wpAny_Name (r_var R (kle.v _ q) d2 d3 hv fun val r => P.here k r hq) d1
 ·obtain ⟨v, hv, hq⟩:=h
  obtain ⟨val, e1, e2⟩:=G.glob _ _ hv
  exact r_globName W k R (kle.g _ q) d1 e1 (P.here k (e2 _) hq)
theorem sx_bin {l r:PySem.Expr} {op:Operator} {pos:Pos} (hl:SX c Γ n l) (hr:SX c Γ n r):SX c Γ n (.BinOp l op r pos):=by
 intro env kd x he kle A E s σ ρ Q Q' hA k R h P
 obtain ⟨xl, e1, xr, e2, rfl⟩:=er_bin he
 refine wpAny_BinOp (hl.run e1 kle hA k R h fun u σ₁ a h₁ tk₁ g₁ ru q₁ => ?_)
 refine hr.run e2 kle hA g₁.ok (R.go k g₁) q₁ fun v σ₂ b h₂ tk₂ g₂ rv q₂ => ?_
 exact r_bin g₂.ok (g₂.vr g₁.ok ru) rv q₂ (step2 (s:=s) (g₁.trans g₂) P)
theorem sx_neg {a:PySem.Expr} {pos:Pos} (ha:SX c Γ n a):SX c Γ n (.UnaryOp .USub a pos):=by
 intro env kd x he kle A E s σ ρ Q Q' hA k R h P
 obtain ⟨xa, e1, rfl⟩:=er_neg he
 refine wpAny_UnaryOp (ha.run e1 kle hA k R h fun u σ₁ a h₁ tk₁ g₁ ru q₁ => ?_)
 obtain ⟨i, rfl, hq⟩:=q₁
 obtain ⟨t, rfl⟩:=ru
 exact neg_int ((step2 g₁ P).same g₁.ok (.int _ _ _) hq _)
theorem truth_run {s:Shared} {σ:Store} {A:Around} {E} {u:V} {a:Value} {K:Bool → Prop} {Q':Bool → Shared → Prop} (ru:VR s.heap u a) (h:truthW u K) (P:∀ b, K b → Q' b s):wpAny (model c.prog c.w) A (truthy a) Q' E s:=by
 cases u with
 | bool b => cases ru; exact wpAny_truthy_bool (P _ h)
 | _ => exact False.elim h
theorem sx_not {a:PySem.Expr} {pos:Pos} (ha:SX c Γ n a):SX c Γ n (.UnaryOp .Not a pos):=by
 intro env kd x he kle A E s σ ρ Q Q' hA k R h P
 obtain ⟨xa, e1, rfl⟩:=er_not he
 refine wpAny_UnaryOp (ha.run e1 kle hA k R h fun u σ₁ a h₁ tk₁ g₁ ru q₁ => ?_)
 unfold unaryOp
 refine wpAny_holding (wpAny_bind ?_)
 exact truth_run (σ:=σ₁) ru q₁ fun b q => wpAny_pure ((step2 g₁ P).here g₁.ok (show VR h₁ (.bool _) _ from rfl) q)
theorem xs_run {args:List PySem.Expr} (hs:∀ e ∈ args, SX c Γ n e):∀ {xs:List X} {env:Env} {kd:Kinds} {A:Around} {E} {s:Shared} {σ:Store} {ρ:Loc} {Q:List V → Store → Prop} {Q':List Value → Shared → Prop}, erL args kd = some xs → Kle kd env.kindOf → AOk A n → Ok c σ s.heap → EnvR c env ρ σ s.heap → wXs Γ xs ρ σ Q → PostVs c s σ args.length Q Q' →
  wpAny (model c.prog c.w) A (spliced (args.map fun e => (false, eval e env))) Q' E s:=by
 induction args with
 | nil =>
  intro xs env kd A E s σ ρ Q Q' he kle hA k R h P
  cases er_nil he
  exact Calls.spliced_nil (P [] σ [] s.heap s.toks (Go.refl k) rfl rfl h)
 | cons e r ih =>
  intro xs env kd A E s σ ρ Q Q' he kle hA k R h P
  obtain ⟨x, e1, ys, e2, rfl⟩:=er_cons he
  refine Calls.spliced_cons ((hs e List.mem_cons_self).run e1 kle hA k R h fun u σ₁ a h₁ tk₁ g₁ ru q₁ => ?_)
  refine ih (fun e he => hs e (List.mem_cons_of_mem _ he)) e2 kle hA g₁.ok (R.go k g₁) q₁ fun vs σ₂ vals h₂ tk₂ g₂ rvs len q₂ => ?_
  exact P (u :: vs) σ₂ (a :: vals) h₂ tk₂ (g₁.trans g₂) ⟨_, _, rfl, g₂.vr g₁.ok ru, rvs⟩ (congrArg Nat.succ len) q₂
theorem bool_run {op:BoolOp} {pos:Pos} {env:Env} {kd:Kinds} {A:Around} {E} {Q':Value → Shared → Prop} (kle:Kle kd env.kindOf) (hA:AOk A n):∀ {xs:List PySem.Expr} {ys:List X} {s:Shared} {σ:Store} {ρ:Loc} {Q:V → Store → Prop}, (∀ e ∈ xs, SX c Γ n e) → erL xs kd = some ys →
  Ok c σ s.heap → EnvR c env ρ σ s.heap → PostV c s σ Q Q' → wBool Γ (op == .Or) ys ρ σ Q → wpAny (model c.prog c.w) A (boolOp pos op (evalEach xs env)) Q' E s:=by
 intro xs
 induction xs with
 | nil => intro ys s σ ρ Q hs e0 k R P h; cases er_nil e0; exact False.elim h
 | cons e r ih =>
  intro ys s σ ρ Q hs e0 k R P h
  obtain ⟨x, e1, zs, e2, rfl⟩:=er_cons e0
  cases r with
  | nil =>
   cases er_nil e2
   exact (hs e List.mem_cons_self).run e1 kle hA k R h P
  | cons e' r' =>
   obtain ⟨z, _, zs', _, rfl⟩:=er_cons e2
   show wpAny _ A (eval e env >>= _) Q' _ s
   refine wpAny_bind ((hs e List.mem_cons_self).run e1 kle hA k R h fun u σ₁ a h₁ tk₁ g₁ ru q₁ => ?_)
   refine wpAny_bind (wpAny_standAt (wpAny_bind (wpAny_holding ?_)))
   refine truth_run (σ:=σ₁) ru q₁ fun b q => ?_
   have rest:b ≠ (op == .Or) → wpAny (model c.prog c.w) A (boolOp pos op (evalEach (e' :: r') env)) Q' E { s with heap:=h₁, toks:=tk₁ }:=fun nb => by
    rw [if_neg nb] at q
    exact ih (fun e he => hs e (List.mem_cons_of_mem _ he)) e2 g₁.ok (R.go k g₁) (step2 (s:=s) g₁ P) q
   have stop:b = (op == .Or) → Q' a { s with heap:=h₁, toks:=tk₁ }:=fun nb => by
    rw [if_pos nb] at q
    exact P u σ₁ a h₁ tk₁ g₁ ru q
   cases op <;> cases b
   ·exact wpAny_pure (stop rfl)
   ·exact rest (by decide)
   ·exact rest (by decide)
   ·exact wpAny_pure (stop rfl)
theorem sx_boolop {op:BoolOp} {pos:Pos} {xs:List PySem.Expr} (hs:∀ e ∈ xs, SX c Γ n e):SX c Γ n (.BoolOp op xs pos):=by
 intro env kd x he kle A E s σ ρ Q Q' hA k R h P
 obtain ⟨ys, e1, rfl⟩:=er_boolop he
 rw [arm_eval_BoolOp]
 exact bool_run kle hA hs e1 k R P h
end
end Mini
end
section
namespace Mini
open PySem PySem.W PyProof.Rows
section
variable {c:Cfg} {Γ:GE} {n:Nat}
theorem ST.run {e:PySem.Expr} (S:ST c Γ n e) {env:Env} {kd:Kinds} {x:X} (he:er e kd = some x) (kle:Kle kd env.kindOf) {A:Around} {E} {s:Shared} {σ:Store} {ρ:Loc} {Q:Bool → Store → Prop} {Q':Bool → Shared → Prop}
  (hA:AOk A n) (k:Ok c σ s.heap) (R:EnvR c env ρ σ s.heap) (h:wT Γ x ρ σ Q) (P:PostB c s σ Q Q'):wpAny (model c.prog c.w) A (isTrue e env (eval e env)) Q' E s:=S env kd x he kle A E s σ ρ Q Q' hA k R h P
theorem SI.run {e:PySem.Expr} (S:SI c Γ n e) {env:Env} {kd:Kinds} {x:X} (he:er e kd = some x) (kle:Kle kd env.kindOf) {A:Around} {E} {s:Shared} {σ:Store} {ρ:Loc} {Q:ItQ} {Q':Value → Shared → Prop}
  (hA:AOk A n) (k:Ok c σ s.heap) (R:EnvR c env ρ σ s.heap) (h:wIter Γ x ρ σ Q) (P:PostI c s σ Q Q'):wpAny (model c.prog c.w) A (eval e env) Q' E s:=S env kd x he kle A E s σ ρ Q Q' hA k R h P
theorem stepB {s:Shared} {σ σ₁:Store} {h₁:Heap} {tk₁:Nat} {Q:Bool → Store → Prop} {Q':Bool → Shared → Prop} (g:Go c σ s.heap σ₁ h₁) (P:PostB c s σ Q Q'):PostB c { s with heap:=h₁, toks:=tk₁ } σ₁ Q Q' :=
 fun v σ' h' tk' g' q => P v σ' h' tk' (g.trans g') q
theorem sx_ite {t a b:PySem.Expr} {pos:Pos} (ht:ST c Γ n t) (ha:SX c Γ n a) (hb:SX c Γ n b):SX c Γ n (.IfExp t a b pos):=by
 intro env kd x he kle A E s σ ρ Q Q' hA k R h P
 obtain ⟨xt, e1, xa, e2, xb, e3, rfl⟩:=er_ite he
 refine wpAny_IfExp (ht.run e1 kle hA k R h fun tb σ₁ h₁ tk₁ g₁ q₁ => ?_)
 cases tb with
 | true => exact ha.run e2 kle hA g₁.ok (R.go k g₁) q₁ (step2 (s:=s) g₁ P)
 | false => exact hb.run e3 kle hA g₁.ok (R.go k g₁) q₁ (step2 (s:=s) g₁ P)
theorem behind_of {op:CmpOp} {e:PySem.Expr} {kd:Kinds} {x:X} (he:er e kd = some x):behindInMarks op e = false:=by
 cases e <;> first | rfl | exact nomatch he
theorem sx_cmp {l r:PySem.Expr} {op:CmpOp} {pos:Pos} (W:CfgOk c) (hl:SX c Γ n l) (hr:SX c Γ n r):SX c Γ n (.Compare l [op] [r] pos):=by
 intro env kd x he kle A E s σ ρ Q Q' hA k R h P
 obtain ⟨xl, e1, xr, e2, rfl⟩:=er_cmp he
 refine wpAny_Compare1 (hl.run e1 kle hA k R h fun u σ₁ a h₁ tk₁ g₁ ru q₁ => ?_) (behind_of e2)
 refine hr.run e2 kle hA g₁.ok (R.go k g₁) q₁ fun v σ₂ b h₂ tk₂ g₂ rv q₂ => ?_
 exact r_cmp W hA g₂.ok (g₂.vr g₁.ok ru) rv q₂ fun r tk q => (step2 (s:=s) (g₁.trans g₂) P).same g₂.ok (show VR h₂ (.bool _) _ from rfl) q tk
theorem st_cmp {l r:PySem.Expr} {op:CmpOp} {pos:Pos} (W:CfgOk c) (hl:SX c Γ n l) (hr:SX c Γ n r):ST c Γ n (.Compare l [op] [r] pos):=by
 intro env kd x he kle A E s σ ρ Q Q' hA k R h P
 obtain ⟨xl, e1, xr, e2, rfl⟩:=er_cmp he
 rw [arm_isTrue_Compare]
 refine wpAny_bind (hl.run e1 kle hA k R h fun u σ₁ a h₁ tk₁ g₁ ru q₁ => ?_)
 rw [markedEach_of_false _ _ _ (show lastMarks [op] [r] = false from behind_of e2)]
 show wpAny _ A (holding [a] (eval r env) >>= _) Q' E _
 refine wpAny_bind (wpAny_holding (hr.run e2 kle hA g₁.ok (R.go k g₁) q₁ fun v σ₂ b h₂ tk₂ g₂ rv q₂ => ?_))
 refine wpAny_bind (wpAny_standAt (wpAny_bind (wpAny_operate' (r_cmp W hA g₂.ok (g₂.vr g₁.ok ru) rv q₂ fun r tk q => ?_))))
 exact wpAny_holding (wpAny_truthy_bool (P r σ₂ h₂ tk (g₁.trans g₂) q))
theorem st_chain {l m r:PySem.Expr} {o1 o2:CmpOp} {pos:Pos} (W:CfgOk c) (hl:SX c Γ n l) (hm:SX c Γ n m) (hr:SX c Γ n r):ST c Γ n (.Compare l [o1, o2] [m, r] pos):=by
 intro env kd x he kle A E s σ ρ Q Q' hA k R h P
 obtain ⟨xl, e1, xm, e2, xr, e3, rfl⟩:=er_chain he
 rw [arm_isTrue_Compare]
 refine wpAny_bind (hl.run e1 kle hA k R h fun u σ₁ a h₁ tk₁ g₁ ru q₁ => ?_)
 rw [markedEach_of_false _ _ _ (show lastMarks [o1, o2] [m, r] = false from behind_of e3)]
 show wpAny _ A (holding [a] (eval m env) >>= _) Q' E _
 refine wpAny_bind (wpAny_holding (hm.run e2 kle hA g₁.ok (R.go k g₁) q₁ fun v σ₂ b h₂ tk₂ g₂ rv q₂ => ?_))
 have R₂:=(R.go k g₁).go g₁.ok g₂
 refine wpAny_bind (wpAny_standAt (wpAny_bind (wpAny_holding (r_cmp W hA g₂.ok (g₂.vr g₁.ok ru) rv q₂ fun t tk q => ?_))))
 refine wpAny_bind (wpAny_release (wpAny_bind (wpAny_holding (wpAny_truthy_bool ?_))))
 cases t with
 | false => simp only [Bool.false_eq_true, if_false] at q ⊢; exact wpAny_pure (P false σ₂ h₂ tk (g₁.trans g₂) q)
 | true =>
  simp only [if_true] at q ⊢
  show wpAny _ A (holding [b] (eval r env) >>= _) Q' E _
  refine wpAny_bind (wpAny_holding (hr.run (s:={ s with heap:=h₂, toks:=tk }) e3 kle hA g₂.ok R₂ q fun v' σ₃ b' h₃ tk₃ g₃ rv' q₃ => ?_))
  refine wpAny_bind (wpAny_standAt (wpAny_bind (wpAny_operate' (r_cmp W hA g₃.ok (g₃.vr g₂.ok rv) rv' q₃ fun r tk q => ?_))))
  exact wpAny_holding (wpAny_truthy_bool (P r σ₃ h₃ tk ((g₁.trans g₂).trans g₃) q))
theorem all_run {op:BoolOp} {env:Env} {kd:Kinds} {A:Around} {E} {Q':Bool → Shared → Prop} (kle:Kle kd env.kindOf) (hA:AOk A n):∀ {xs:List PySem.Expr} {ys:List X} {s:Shared} {σ:Store} {ρ:Loc} {Q:Bool → Store → Prop}, (∀ e ∈ xs, ST c Γ n e) → erL xs kd = some ys →
  Ok c σ s.heap → EnvR c env ρ σ s.heap → PostB c s σ Q Q' → wTs Γ (op == .Or) ys ρ σ Q → wpAny (model c.prog c.w) A (allTrue op xs env) Q' E s:=by
 intro xs
 induction xs with
 | nil =>
  intro ys s σ ρ Q hs e0 k R P h
  cases er_nil e0
  rw [arm_allTrue_nil]
  refine wpAny_pure ?_
  have:(op == .And) = !(op == .Or):=by cases op <;> rfl
  rw [this]
  exact P _ σ s.heap s.toks (Go.refl k) h
 | cons e r ih =>
  intro ys s σ ρ Q hs e0 k R P h
  obtain ⟨x, e1, zs, e2, rfl⟩:=er_cons e0
  rw [arm_allTrue_cons]
  refine wpAny_bind ((hs e List.mem_cons_self).run e1 kle hA k R h fun b σ₁ h₁ tk₁ g₁ q => ?_)
  have rest:b ≠ (op == .Or) → wpAny (model c.prog c.w) A (allTrue op r env) Q' E { s with heap:=h₁, toks:=tk₁ }:=fun nb => by
   rw [if_neg nb] at q
   exact ih (fun e he => hs e (List.mem_cons_of_mem _ he)) e2 g₁.ok (R.go k g₁) (stepB (s:=s) g₁ P) q
  have stop:b = (op == .Or) → Q' (op == .Or) { s with heap:=h₁, toks:=tk₁ }:=fun nb => by
   rw [if_pos nb] at q
   exact P _ σ₁ h₁ tk₁ g₁ q
  cases op <;> cases b
  ·exact wpAny_pure (stop rfl)
  ·exact rest (by decide)
  ·exact rest (by decide)
  ·exact wpAny_pure (stop rfl)
theorem st_boolop {op:BoolOp} {pos:Pos} {xs:List PySem.Expr} (hs:∀ e ∈ xs, ST c Γ n e):ST c Γ n (.BoolOp op xs pos):=by
 intro env kd x he kle A E s σ ρ Q Q' hA k R h P
 obtain ⟨ys, e1, rfl⟩:=er_boolop he
 rw [arm_isTrue_BoolOp]
 exact all_run kle hA hs e1 k R P h
theorem st_not {a:PySem.Expr} {pos:Pos} (ha:ST c Γ n a):ST c Γ n (.UnaryOp .Not a pos):=by
 intro env kd x he kle A E s σ ρ Q Q' hA k R h P
 obtain ⟨xa, e1, rfl⟩:=er_not he
 rw [arm_isTrue_UnaryOp]
 exact wpAny_bind (ha.run e1 kle hA k R h fun b σ₁ h₁ tk₁ g₁ q => wpAny_pure (P _ σ₁ h₁ tk₁ g₁ q))
theorem st_ite {t a b:PySem.Expr} {pos:Pos} (ht:ST c Γ n t) (ha:ST c Γ n a) (hb:ST c Γ n b):ST c Γ n (.IfExp t a b pos):=by
 intro env kd x he kle A E s σ ρ Q Q' hA k R h P
 obtain ⟨xt, e1, xa, e2, xb, e3, rfl⟩:=er_ite he
 rw [arm_isTrue_IfExp]
 refine wpAny_bind (ht.run e1 kle hA k R h fun tb σ₁ h₁ tk₁ g₁ q₁ => ?_)
 cases tb with
 | true => exact ha.run e2 kle hA g₁.ok (R.go k g₁) q₁ (stepB (s:=s) g₁ P)
 | false => exact hb.run e3 kle hA g₁.ok (R.go k g₁) q₁ (stepB (s:=s) g₁ P)
theorem st_of {e:PySem.Expr} (hS:SX c Γ n e) (h1:∀ env m, isTrue e env m = (do let v ← m; standAt e.pos; holding [v] (truthy v)))
  (h2:∀ kd x ρ σ Q, er e kd = some x → wT Γ x ρ σ Q → wX Γ x ρ σ fun v σ' => truthW v fun b => Q b σ'):ST c Γ n e:=by
 intro env kd x he kle A E s σ ρ Q Q' hA k R h P
 rw [h1]
 refine wpAny_bind (hS.run he kle hA k R (h2 kd x ρ σ Q he h) fun u σ₁ a h₁ tk₁ g₁ ru q₁ => ?_)
 exact wpAny_bind (wpAny_standAt (wpAny_holding (truth_run (σ:=σ₁) ru q₁ fun b q => P b σ₁ h₁ tk₁ g₁ q)))
theorem si_of {e:PySem.Expr} (hS:SX c Γ n e) (h2:∀ kd x ρ σ Q, er e kd = some x → wIter Γ x ρ σ Q → wX Γ x ρ σ fun v σ' => iterVal v σ' Q):SI c Γ n e:=by
 intro env kd x he kle A E s σ ρ Q Q' hA k R h P
 exact hS.run he kle hA k R (h2 kd x ρ σ Q he h) fun u σ₁ a h₁ tk₁ g₁ ru q₁ => P σ₁ a h₁ tk₁ g₁ (.inl ⟨u, ru, q₁⟩)
end
end Mini
end
section
namespace Mini
open PySem PySem.W PyProof.Rows
section
variable {c:Cfg} {Γ:GE} {n:Nat}
theorem er_Call {id:Str} {p pos:Pos} {args:List PySem.Expr} {kd:Kinds} {x:X} (he:er (.Call (.Name id p) args [] pos) kd = some x) :
  isGlobK (kd id) = true ∧ (id == ("__debug__":Str)) = false ∧ args.all notStar = true ∧ ∃ xs, erL args kd = some xs ∧
   ((id = ("range":Str) ∧ x = .range xs) ∨ (id ≠ ("range":Str) ∧ ∃ b, bfnOf id = some b ∧ x = .bcall b xs) ∨ (id ≠ ("range":Str) ∧ bfnOf id = none ∧ x = .call id xs)):=by
 obtain ⟨q, he⟩:=of_if he
 obtain ⟨xs, e1, he⟩:=bdk he
 have q1:=Bool.and_eq_true_iff.mp q
 have q2:=Bool.and_eq_true_iff.mp q1.1
 have q3:=Bool.and_eq_true_iff.mp q2.1
 refine ⟨q3.1, (Bool.not_eq_true' _).mp q3.2, q2.2, xs, e1, ?_⟩
 have he:(if (id == ("range":Str)) = true then some (X.range xs) else match bfnOf id with | some b => some (X.bcall b xs) | none => some (X.call id xs)) = some x:=he
 cases z:id == ("range":Str) with
 | true => rw [z] at he; exact .inl ⟨eq_of_beq z, (Option.some.inj he).symm⟩
 | false =>
  rw [z] at he
  have z':id ≠ ("range":Str):=ne_of_beq_false z
  cases hb:bfnOf id with
  | some b => rw [hb] at he; exact .inr (.inl ⟨z', b, rfl, (Option.some.inj he).symm⟩)
  | none => rw [hb] at he; exact .inr (.inr ⟨z', rfl, (Option.some.inj he).symm⟩)
theorem bfn_name {id:Str} {b:BFn} (h:bfnOf id = some b):id = bName b:=by
 have s:∀ {p:Prop} [Decidable p] {o:Option BFn} {c:BFn}, (if p then some c else o) = some b → (p ∧ c = b) ∨ o = some b:=fun {p _ o c} h => by
  by_cases q:p
  ·rw [if_pos q] at h; exact .inl ⟨q, Option.some.inj h⟩
  ·rw [if_neg q] at h; exact .inr h
 rcases s h with ⟨q, rfl⟩ | h
 ·exact q
 rcases s h with ⟨q, rfl⟩ | h
 ·exact q
 rcases s h with ⟨q, rfl⟩ | h
 ·exact q
 rcases s h with ⟨q, rfl⟩ | h
 ·exact q
 ·exact nomatch h
theorem call_head {id:Str} {p pos:Pos} {args:List PySem.Expr} {env:Env} {M:Model} {A:Around} {E} {s:Shared} {Q':Value → Shared → Prop}
  (h:wpAny M A (eval (.Name id p) env) (fun f s₁ => wpAny M A (callWith pos f [] (backTo pos (starEach args env)) []) Q' E s₁) E s):wpAny M A (eval (.Call (.Name id p) args [] pos) env) Q' E s :=
 Call_Name rfl h
theorem sx_call {id:Str} {p pos:Pos} {args:List PySem.Expr} (W:CfgOk c) (G:GOk c n Γ) (hs:∀ e ∈ args, SX c Γ n e):SX c Γ n (.Call (.Name id p) args [] pos):=by
 intro env kd x he kle A E s σ ρ Q Q' hA k R h P
 obtain ⟨q1, q2, q3, xs, e1, q⟩:=er_Call he
 rcases q with ⟨_, rfl⟩ | ⟨_, b, hb, rfl⟩ | ⟨_, _, rfl⟩
 ·exact False.elim h
 ·have e:=bfn_name hb
  subst e
  obtain ⟨b1, b2⟩:=W.bi b
  refine call_head (r_builtName W k R (kle.g _ q1) q2 b1 b2 ?_)
  refine callWith_any W (by cases b <;> first | exact .inl ⟨_, rfl⟩ | exact .inr (.inl ⟨_, rfl⟩)) q3 ?_
  refine xs_run hs e1 kle hA k R h fun vs σ₁ vals h₁ tk₁ g₁ rvs _ q₁ => ⟨g₁.ok.kin (s:={ s with heap:=h₁, toks:=tk₁ }) W, ?_⟩
  exact r_bcall W hA g₁.ok rvs q₁ (step2 (s:=s) g₁ P)
 ·obtain ⟨spec, f1, h⟩:=h
  obtain ⟨a, f2, f3, f4⟩:=G.fn _ _ f1
  refine call_head (r_globName W k R (kle.g _ q1) q2 f2 ?_)
  refine callWith_any W (.inr (.inr f3)) q3 ?_
  refine xs_run hs e1 kle hA k R h fun vs σ₁ vals h₁ tk₁ g₁ rvs _ q₁ => ⟨g₁.ok.kin (s:={ s with heap:=h₁, toks:=tk₁ }) W, ?_⟩
  exact wpAny_call (f4 A _ σ₁ vs vals Q _ hA g₁.ok rvs q₁ fun v σ' val h' tk' g' r q => (step2 (s:=s) g₁ P) v σ' val h' tk' g' r q)
theorem range_run {vs:List V} {vals:List Value} {A:Around} {E} {s:Shared} {σ:Store} {K:List V → Prop} {QI:ItQ} {Q':Value → Shared → Prop} (k:Ok c σ s.heap) (rvs:VRs s.heap vs vals) (h:rangeW vs K) (hK:∀ items, K items → QI items (fun _ => True) σ id)
  (P:PostI c s σ QI Q'):wpAny (model c.prog c.w) A (call (.type "range") vals) Q' E s:=by
 have kp:∀ {o:Obj}, ∀ b o', s.heap.get? b = some o' → (s.heap.push o).get? b = some o':=fun b o' e => Heap.get?_push_of_some _ e
 cases vs with
 | nil => exact False.elim h
 | cons x r =>
  cases r with
  | nil =>
   obtain ⟨b, rfl, h1, h2, h3⟩:=V.of_int1 h
   obtain ⟨v, rfl, t, rfl⟩:=rvs.one'
   exact call_range_1 (P σ _ _ _ (Go.grow' k kp) (.inr ⟨_, 0, _, 1, _, _, _, rfl, IsRange.new _ _ _ _ _ _ _, .inl rfl, by decide, by decide, h1, h2, hK _ h3⟩))
  | cons y r =>
   cases r with
   | nil =>
    obtain ⟨a, rfl, h'⟩:=V.of_int1 h
    obtain ⟨b, rfl, h1, h2, h3, h4, h5⟩:=V.of_int1 h'
    obtain ⟨v, u, rfl, ⟨t, rfl⟩, t', rfl⟩:=rvs.two'
    exact call_range_2 (P σ _ _ _ (Go.grow' k kp) (.inr ⟨_, _, _, 1, _, _, _, rfl, IsRange.new _ _ _ _ _ _ _, .inl rfl, h1, h2, h3, h4, hK _ h5⟩))
   | cons z r =>
    obtain ⟨rfl, g⟩:=of_nil1 h
    obtain ⟨a, rfl, g'⟩:=V.of_int1 g
    obtain ⟨b, rfl, g''⟩:=V.of_int1 g'
    obtain ⟨c', rfl, h1, h2, h3, h4, rfl, h5⟩:=V.of_int1 g''
    obtain ⟨v, r, rfl, ⟨t, rfl⟩, r2⟩:=rvs.cons'
    obtain ⟨u, w, rfl, ⟨t', rfl⟩, t'', rfl⟩:=r2.two'
    exact call_range_3 (by decide) (P σ _ _ _ (Go.grow' k kp) (.inr ⟨_, _, _, -1, _, _, _, rfl, IsRange.new _ _ _ _ _ _ _, .inr rfl, h1, h2, h3, h4, hK _ h5⟩)) (.inl (notPylong (by decide)))
theorem si_call {id:Str} {p pos:Pos} {args:List PySem.Expr} (W:CfgOk c) (G:GOk c n Γ) (hs:∀ e ∈ args, SX c Γ n e):SI c Γ n (.Call (.Name id p) args [] pos):=by
 intro env kd x he kle A E s σ ρ Q Q' hA k R h P
 obtain ⟨q1, q2, q3, xs, e1, q⟩:=er_Call he
 rcases q with ⟨rfl, rfl⟩ | ⟨_, b, hb, rfl⟩ | ⟨_, _, rfl⟩
 ·refine call_head (r_builtName W k R (kle.g _ q1) q2 W.rng.1 W.rng.2 ?_)
  refine callWith_any W (.inr (.inl ⟨_, rfl⟩)) q3 ?_
  refine xs_run hs e1 kle hA k R h fun vs σ₁ vals h₁ tk₁ g₁ rvs _ q₁ => ⟨g₁.ok.kin (s:={ s with heap:=h₁, toks:=tk₁ }) W, ?_⟩
  exact range_run g₁.ok rvs q₁ (fun _ z => z) fun σ' val h' tk' g' iv => P σ' val h' tk' (g₁.trans g') iv
 ·exact False.elim h
 ·have S:=sx_call (id:=id) (p:=p) (pos:=pos) W G hs
  exact S.run he kle hA k R (x:=.call id xs) (Q:=fun v σ' => iterVal v σ' Q) h fun u σ₁ a h₁ tk₁ g₁ ru q₁ => P σ₁ a h₁ tk₁ g₁ (.inl ⟨u, ru, q₁⟩)
theorem base_of {o:PySem.Expr} {attr:Str} {env:Env} {m:Sem Value} (h:plainBase o = true):attributeBase o attr env m = m:=by
 cases o with
 | Call f args kws pos =>
  cases args with
  | nil => exact nomatch h
  | cons a r => cases f <;> rfl
 | _ => rfl
theorem er_Meth {o:PySem.Expr} {name:Str} {apos pos:Pos} {args:List PySem.Expr} {kd:Kinds} {x:X} (he:er (.Call (.Attribute o name apos) args [] pos) kd = some x) :
  plainBase o = true ∧ args.all notStar = true ∧ args.length ≤ 28 ∧ apos.endLine = pos.line ∧ ∃ xo xs, er o kd = some xo ∧ erL args kd = some xs ∧ x = .meth xo name xs:=by
 obtain ⟨q, he⟩:=of_if he
 obtain ⟨xo, e1, xs, e2, rfl⟩:=bd2 he
 have q1:=Bool.and_eq_true_iff.mp q
 have q2:=Bool.and_eq_true_iff.mp q1.1
 have q3:=Bool.and_eq_true_iff.mp q2.1
 exact ⟨q3.1, q3.2, Nat.le_of_ble_eq_true q2.2, eq_of_beq q1.2, xo, xs, e1, e2, rfl⟩
theorem all_plain {env:Env}:∀ args:List PySem.Expr, ((args.map fun e => ((false, eval e env):Bool × Sem Value)).all (!·.1)) = true
 | [] => rfl
 | _ :: r => all_plain r
theorem few_args {pos:Pos} {args:List PySem.Expr} {env:Env} (q2:args.all notStar = true) (q3:args.length ≤ 28):methodCallForm (args.length + ([]:List Keyword).length) (backTo pos (starEach args env)) (backToKw pos (keywordEach [] env)) = true:=by
 rw [star_plain q2]
 unfold methodCallForm
 rw [all_plain, Bool.true_and, show backToKw pos (keywordEach [] env) = [] from rfl]
 simp
 omega
theorem sx_meth {o:PySem.Expr} {name:Str} {apos pos:Pos} {args:List PySem.Expr} (W:CfgOk c) (G:GOk c n Γ) (ho:SX c Γ n o) (hs:∀ e ∈ args, SX c Γ n e):SX c Γ n (.Call (.Attribute o name apos) args [] pos):=by
 intro env kd x he kle A E s σ ρ Q Q' hA k R h P
 obtain ⟨q1, q2, q3, q4, xo, xs, e1, e2, rfl⟩:=er_Meth he
 rw [arm_eval_Call, base_of q1]
 refine wpAny_bind (ho.run e1 kle hA k R h fun u σ₁ a h₁ tk₁ g₁ ru q₁ => wpAny_bind (wpAny_standAt ?_))
 have few:methodCallForm (args.length + ([]:List Keyword).length) (backTo pos (starEach args env)) (backToKw pos (keywordEach [] env)) = true:=few_args q2 q3
 unfold methodCall
 rw [few]
 show wpAny _ A (holding [a] (getMethod a name _) >>= _) Q' E _
 refine wpAny_bind (wpAny_holding (r_getMethod W G g₁.ok ru q₁ fun kd' fv first m q => ?_))
 dsimp only
 unfold methodCallPos
 simp only [Bool.not_true, Bool.false_or, beq_iff_eq, q4, if_true]
 refine wpAny_bind (wpAny_pure ?_)
 obtain ⟨kp, rfl⟩:=m.kp
 refine callWith_any W kp q2 ?_
 refine xs_run hs e2 kle hA g₁.ok (R.go k g₁) q fun vs σ₂ vals h₂ tk₂ g₂ rvs _ q₂ => ⟨g₂.ok.kin (s:={ s with heap:=h₂, toks:=tk₂ }) W, ?_⟩
 exact r_methCall W hA g₂.ok (g₂.vr g₁.ok ru) m rvs q₂ (step2 (s:=s) (g₁.trans g₂) P)
theorem sx_attr {o:PySem.Expr} {name:Str} {pos:Pos} (W:CfgOk c) (ho:SX c Γ n o):SX c Γ n (.Attribute o name pos):=by
 intro env kd x he kle A E s σ ρ Q Q' hA k R h P
 obtain ⟨q, xo, e1, rfl⟩:=er_attr he
 have q:=Bool.and_eq_true_iff.mp q
 rw [arm_eval_Attribute, base_of q.1]
 refine wpAny_bind (ho.run e1 kle hA k R h fun u σ₁ a h₁ tk₁ g₁ ru q₁ => wpAny_bind (wpAny_standAt (wpAny_bind (wpAny_holding ?_))))
 refine r_getAttr W (List.contains_iff_mem.mp q.2) g₁.ok ru q₁ fun v σ' val h' tk' g' r q => ?_
 exact wpAny_bind (wpAny_letTemporaryGo (wpAny_pure (P v σ' val h' tk' (g₁.trans g') r q)))
theorem sx_sub {o i:PySem.Expr} {pos:Pos} (W:CfgOk c) (ho:SX c Γ n o) (hi:SX c Γ n i) (hn:notSlice i = true):SX c Γ n (.Subscript o i pos):=by
 intro env kd x he kle A E s σ ρ Q Q' hA k R h P
 obtain ⟨xo, e1, xi, e2, rfl⟩:=er_sub hn he
 refine Subscript_ (ho.run e1 kle hA k R h fun u σ₁ a h₁ tk₁ g₁ ru q₁ => ?_)
 refine hi.run e2 kle hA g₁.ok (R.go k g₁) q₁ fun v σ₂ b h₂ tk₂ g₂ rv q₂ => ?_
 exact r_sub W hA hn g₂.ok (g₂.vr g₁.ok ru) rv q₂ (step2 (s:=s) (g₁.trans g₂) P)
theorem opt_run {lo:Option PySem.Expr} (hs:∀ e, lo = some e → SX c Γ n e) {env:Env} {kd:Kinds} {x:Option X} (he:erO lo kd = some x) (kle:Kle kd env.kindOf) {A:Around} {E} {s:Shared} {σ:Store} {ρ:Loc} {Q:V → Store → Prop} {Q':Value → Shared → Prop}
  (hA:AOk A n) (k:Ok c σ s.heap) (R:EnvR c env ρ σ s.heap) (h:wOpt Γ x ρ σ Q) (P:PostV c s σ Q Q'):wpAny (model c.prog c.w) A (valueOrNone (evalOpt lo env)) Q' E s:=by
 cases lo with
 | none =>
  cases er_no he
  exact wpAny_pure (P.here k (show VR s.heap .none .none from rfl) h)
 | some e =>
  obtain ⟨xe, e1, rfl⟩:=er_some he
  exact (hs e rfl).run e1 kle hA k R h P
theorem sx_slice {o:PySem.Expr} {lo hi:Option PySem.Expr} {p pos:Pos} (W:CfgOk c) (ho:SX c Γ n o) (hl:∀ e, lo = some e → SX c Γ n e) (hh:∀ e, hi = some e → SX c Γ n e):SX c Γ n (.Subscript o (.Slice lo hi none p) pos):=by
 intro env kd x he kle A E s σ ρ Q Q' hA k R h P
 obtain ⟨xo, e1, xl, e2, xh, e3, rfl⟩:=er_slice he
 refine Subscript_ (ho.run e1 kle hA k R h fun u σ₁ a h₁ tk₁ g₁ ru q₁ => ?_)
 rw [arm_eval_Slice]
 have R₁:=R.go k g₁
 refine wpAny_bind (opt_run hl e2 kle hA g₁.ok R₁ q₁ fun lv σ₂ la h₂ tk₂ g₂ rl q₂ => ?_)
 refine wpAny_bind (wpAny_holding (opt_run hh e3 kle hA g₂.ok (R₁.go g₁.ok g₂) q₂ fun hv σ₃ ha h₃ tk₃ g₃ rh q₃ => ?_))
 refine wpAny_bind (wpAny_holding (wpAny_pure ?_))
 exact r_slice (value:=none) g₃.ok (g₃.vr g₂.ok (g₂.vr g₁.ok ru)) (g₃.vr g₂.ok rl) rh q₃ (step2 (s:=s) ((g₁.trans g₂).trans g₃) P)
theorem few_items {es:List PySem.Expr} {vals:List Value} {vs:List V} {h:Heap} (rvs:VRs h vs vals) (len:vs.length = es.length) (q:es.length ≤ 100):vals.length ≤ sizeLine:=by
 rw [← rvs.length, len, sizeLine_eq]; omega
theorem sx_tuple {es:List PySem.Expr} {x1:_} {pos:Pos} (hs:∀ e ∈ es, SX c Γ n e):SX c Γ n (.Tuple es x1 pos):=by
 intro env kd x he kle A E s σ ρ Q Q' hA k R h P
 obtain ⟨q, xs, e1, rfl⟩:=er_tup he
 have q:=Bool.and_eq_true_iff.mp q
 refine wpAny_Tuple_spliced ?_
 rw [star_plain q.1]
 refine xs_run hs e1 kle hA k R h fun vs σ₁ vals h₁ tk₁ g₁ rvs len q₁ => ⟨few_items rvs len (Nat.le_of_ble_eq_true q.2), ?_⟩
 have kp:∀ b o', h₁.get? b = some o' → (h₁.push { cls:=.type "tuple", data:=.seq vals.toArray }).get? b = some o':=fun b o' e => Heap.get?_push_of_some _ e
 exact P (.tup vs) σ₁ _ _ tk₁ (g₁.trans (Go.grow' g₁.ok kp)) ⟨_, vals, 0, rfl, IsT.new _ _, rvs.keep (.all kp)⟩ q₁
theorem sx_list {es:List PySem.Expr} {pos:Pos} (hs:∀ e ∈ es, SX c Γ n e):SX c Γ n (.List es pos):=by
 intro env kd x he kle A E s σ ρ Q Q' hA k R h P
 obtain ⟨q, xs, e1, rfl⟩:=er_list he
 have q:=Bool.and_eq_true_iff.mp q
 refine wpAny_List_spliced ?_
 rw [star_plain q.1]
 refine xs_run hs e1 kle hA k R h fun vs σ₁ vals h₁ tk₁ g₁ rvs len q₁ => ⟨few_items rvs len (Nat.le_of_ble_eq_true q.2), ?_⟩
 exact PostV.new (s:={ s with heap:=h₁, toks:=tk₁ }) (step2 (s:=s) g₁ P) g₁.ok q₁ (listR _ rvs) _
end
end Mini
end
section
namespace Mini
open PySem PySem.W PyProof.Rows
section
variable {c:Cfg} {Γ:GE} {n:Nat}
noncomputable abbrev F1 (h:Heap) (es:List (Key × V)) (kvs:List (Atom × Value)):Prop:=F2 (fun (e:Key × V) kv => e.1 = .one kv.1 ∧ VR h e.2 kv.2) es kvs
theorem keyLits_inv:∀ {ks:List (Option PySem.Expr)} {z:List Str}, keyLits ks = some z → (ks = [] ∧ z = []) ∨ ∃ s kk kp r ss, ks = some (.Constant (.str s) kk kp) :: r ∧ keyLits r = some ss ∧ z = s :: ss
 | [], _, h => .inl ⟨rfl, (Option.some.inj h).symm⟩
 | none :: _, _, h => nomatch h
 | some e :: r, z, h => by
  cases e with
  | Constant c kk kp =>
   cases c with
   | str s =>
    obtain ⟨ss, z1, z2⟩:=Option.map_eq_some_iff.mp h
    exact .inr ⟨s, kk, kp, r, ss, rfl, z1, z2.symm⟩
   | _ => exact nomatch h
  | _ => exact nomatch h
theorem keyLits_cons {ks:List (Option PySem.Expr)} {sk:Str} {ss:List Str} (h:keyLits ks = some (sk :: ss)):∃ kk kp kr, ks = some (.Constant (.str sk) kk kp) :: kr ∧ keyLits kr = some ss:=by
 rcases keyLits_inv h with ⟨_, z⟩ | ⟨s, kk, kp, r, ss', h1, h2, z⟩
 ·exact nomatch z
 ·cases z; exact ⟨kk, kp, r, h1, h2⟩
theorem pairs_run {pos:Pos} {env:Env} {kd:Kinds} {A:Around} {E} (kle:Kle kd env.kindOf) (hA:AOk A n):∀ {vs:List PySem.Expr} {ks:List (Option PySem.Expr)} {ss:List Str} {xs:List X} {s:Shared} {σ:Store} {ρ:Loc} {Q:List (Key × V) → Store → Prop} {Q':List (Value × Value) → Shared → Prop},
  (∀ e ∈ vs, SX c Γ n e) → keyLits ks = some ss → erL vs kd = some xs → Ok c σ s.heap → EnvR c env ρ σ s.heap → wPairs Γ xs ss ρ σ Q →
  (∀ es σ' kvs vals h' tk', Go c σ s.heap σ' h' → Carries (AK c) vals kvs → F1 h' es kvs → Q es σ' → Q' vals { s with heap:=h', toks:=tk' }) →
  wpAny (model c.prog c.w) A (evalPairs (pairTrees ks vs env pos)) Q' E s:=by
 intro vs
 induction vs with
 | nil =>
  intro ks ss xs s σ ρ Q Q' hs hk he k R h P
  cases er_nil he
  cases ss with
  | nil =>
   have:pairTrees ks [] env pos = []:=by cases ks with
    | nil => rfl
    | cons a r => cases a <;> rfl
   rw [this]
   exact evalPairs_nil (P [] σ [] [] s.heap s.toks (Go.refl k) trivial .nil h)
  | cons a r => exact False.elim h
 | cons e r ih =>
  intro ks ss xs s σ ρ Q Q' hs hk he k R h P
  obtain ⟨x, e1, ys, e2, rfl⟩:=er_cons he
  cases ss with
  | nil => exact False.elim h
  | cons sk ss =>
   obtain ⟨kk, kp, kr, rfl, hk'⟩:=keyLits_cons hk
   refine pairTrees_cons_walk (Calls.Constant_str ?_)
   refine (hs e List.mem_cons_self).run (s:={ s with toks:=s.toks + 1 }) e1 kle hA k R h fun u σ₁ a h₁ tk₁ g₁ ru q₁ => ?_
   refine ih (fun e he => hs e (List.mem_cons_of_mem _ he)) hk' e2 g₁.ok (R.go k g₁) q₁ fun es σ₂ kvs vals h₂ tk₂ g₂ cr f q₂ => ?_
   exact P ((.one (.str sk), u) :: es) σ₂ ((.str sk, a) :: kvs) _ h₂ tk₂ (g₁.trans g₂) ⟨(by simp [atomIs, Value.isStrOf]:atomIs (.str sk) (.str sk s.toks) = true), rfl, cr⟩ (.cons ⟨rfl, g₂.vr g₁.ok ru⟩ f) q₂
theorem keyLits_some:∀ {ss:List Str} {ks:List (Option PySem.Expr)}, keyLits ks = some ss → ks.all (·.isSome) = true ∧ ks.length = ss.length:=by
 intro ss
 induction ss with
 | nil =>
  intro ks h
  rcases keyLits_inv h with ⟨rfl, _⟩ | ⟨_, _, _, _, _, _, _, z⟩
  ·exact ⟨rfl, rfl⟩
  ·exact nomatch z
 | cons s ss ih =>
  intro ks h
  obtain ⟨kk, kp, kr, rfl, hk⟩:=keyLits_cons h
  exact ⟨(ih hk).1, congrArg Nat.succ (ih hk).2⟩
theorem merged_f1 {h:Heap}:∀ {es:List (Key × V)} {kvs:List (Atom × Value)} {acc:List (Key × V)} {ak:List (Atom × Value)}, F1 h acc ak → F1 h es kvs → F1 h (es.foldl (fun d (e:Key × V) => aset d e.1 e.2) acc) (merged ak kvs):=by
 intro es kvs acc ak fa f
 induction f generalizing acc ak with
 | nil => exact fa
 | @cons e kv _ _ r _ ih =>
  rw [List.foldl_cons, r.1]
  exact ih (ak:=stored _ kv.1 kv.2) (fa.aset1 kv.1 r.2)
theorem Dict_nil {pos:Pos} {env:Env} {prog:Program} {w:World} {A:Around} {E} {s:Shared} {Q':Value → Shared → Prop} (h:Q' (.ref s.heap.objs.size) { s with heap:=s.heap.push { cls:=.type "dict", data:=.dict #[] } }) :
  wpAny (model prog w) A (eval (.Dict [] [] pos) env) Q' E s:=by
 rw [arm_eval_Dict]
 refine wpAny_bind (wpAny_standAt ?_)
 show wpAny _ A (dictDisplay []) Q' E s
 have:dictDisplay [] = newDict:=rfl
 rw [this]
 exact wpAny_newObj_type h
theorem sx_dict {ks:List (Option PySem.Expr)} {vs:List PySem.Expr} {pos:Pos} (hs:∀ e ∈ vs, SX c Γ n e):SX c Γ n (.Dict ks vs pos):=by
 intro env kd x he kle A E s σ ρ Q Q' hA k R h P
 obtain ⟨q, ss, e1, xs, e2, rfl⟩:=er_dict he
 have q:=Bool.and_eq_true_iff.mp q
 have hlen:=eq_of_beq q.2
 have q:=Nat.le_of_ble_eq_true q.1
 cases ks with
 | nil =>
  have:vs = []:=by cases vs with
   | nil => rfl
   | cons a r => cases hlen
  subst this
  cases er_nil e2
  cases e1
  refine Dict_nil ?_
  exact PostV.new P k h (newDictR (Heap.get?_push_size _ rfl)) s.toks
 | cons k0 kr =>
  refine wpAny_Dict_walk (knd:=AK c) (keyLits_some e1).1 hlen (List.cons_ne_nil _ _) q ?_
  have kp:∀ b o', s.heap.get? b = some o' → (s.heap.push { cls:=.type "dict", data:=.dict #[] }).get? b = some o':=fun b o' e => Heap.get?_push_of_some _ e
  have g0:Go c σ s.heap σ (s.heap.push { cls:=.type "dict", data:=.dict #[] }):=Go.grow' k kp
  have hD:(s.heap.push { cls:=.type "dict", data:=.dict #[] }).get? s.heap.objs.size = some { cls:=.type "dict", data:=.dict #[] }:=Heap.get?_push_size _ rfl
  refine pairs_run (s:={ s with heap:=s.heap.push { cls:=.type "dict", data:=.dict #[] } }) kle hA hs e1 e2 g0.ok (R.go k g0) h fun es σ₁ kvs vals h₁ tk₁ g₁ cr f q₁ => ?_
  have oD:σ s.heap.objs.size = none:=k.free (Nat.le_refl _)
  have hD₁:=g₁.keep _ _ hD (Mut.none oD)
  refine ⟨kvs, cr, ⟨_, #[], 0, hD₁, ⟨rfl, rfl, rfl⟩, rfl, fun e he => by simp at he, .nil, List.nodup_nil⟩, fun h' hd hs' => ?_⟩
  have oD₁:=g₁.out _ _ hD oD
  have t:TupKeep h₁ h':=poke_tups (I:=s.heap.objs.size) (fun o e => by rw [hD₁] at e; cases e; decide) (sameBut_keep hs')
  have g₂:Go c σ s.heap σ₁ h':=(g0.trans g₁).poke (X:=fun y => y = s.heap.objs.size) (by rintro y rfl; exact ⟨oD₁, get?_ge (Nat.le_refl _), (k.fresh (Nat.le_refl _)).1⟩) t (sameBut_keep hs')
  refine P (.ref _) _ _ h' _ (g₂.adopt (o:=.dict (es.foldl (fun d (e:Key × V) => aset d e.1 e.2) [])) (Nat.le_refl _) k (Or.inl ⟨_, hd, merged_f1 .nil (f.imp fun _ _ ⟨a, b⟩ => ⟨a, b.keep t⟩)⟩)) rfl (q₁ _ oD₁)
end
end Mini
end
section
namespace Mini
open PySem PySem.W PyProof.Rows
section
variable {c:Cfg} {Γ:GE} {n:Nat}
noncomputable def T3 (c:Cfg) (Γ:GE) (n:Nat) (e:PySem.Expr):Prop:=SX c Γ n e ∧ ST c Γ n e ∧ SI c Γ n e
theorem T3.bad {e:PySem.Expr} (h:∀ kd, er e kd = none):T3 c Γ n e :=
 have x:∀ {kd x}, er e kd = some x → False:=fun he => nomatch (h _).symm.trans he
 ⟨fun _ kd _ he => (x he).elim, fun _ kd _ he => (x he).elim, fun _ kd _ he => (x he).elim⟩
noncomputable def Pl (Γ:GE) (x:X):Prop:=(∀ ρ σ Q, ¬ wT Γ x ρ σ Q) ∧ ∀ ρ σ Q, ¬ wIter Γ x ρ σ Q
theorem T3.only {e:PySem.Expr} (hS:SX c Γ n e) (h:∀ kd x, er e kd = some x → Pl Γ x):T3 c Γ n e :=
 ⟨hS, fun _ kd x he _ _ _ _ _ _ _ _ _ _ _ hw _ => absurd hw ((h kd x he).1 _ _ _), fun _ kd x he _ _ _ _ _ _ _ _ _ _ _ hw _ => absurd hw ((h kd x he).2 _ _ _)⟩
theorem SI.no {e:PySem.Expr} (h:∀ kd x, er e kd = some x → ∀ ρ σ Q, ¬ wIter Γ x ρ σ Q):SI c Γ n e:=fun _ kd x he _ _ _ _ _ _ _ _ _ _ _ hw _ => absurd hw (h kd x he _ _ _)
theorem ST.no {e:PySem.Expr} (h:∀ kd x, er e kd = some x → ∀ ρ σ Q, ¬ wT Γ x ρ σ Q):ST c Γ n e:=fun _ kd x he _ _ _ _ _ _ _ _ _ _ _ hw _ => absurd hw (h kd x he _ _ _)
theorem SX.no {e:PySem.Expr} (h:∀ kd x, er e kd = some x → ∀ ρ σ Q, ¬ wX Γ x ρ σ Q):SX c Γ n e:=fun _ kd x he _ _ _ _ _ _ _ _ _ _ _ hw _ => absurd hw (h kd x he _ _ _)
theorem t3_const {cst:Const} {kk:Nat} {pos:Pos}:T3 c Γ n (.Constant cst kk pos):=by
 refine ⟨sx_const, st_of sx_const (fun _ _ => rfl) ?_, SI.no ?_⟩
 ·intro kd x ρ σ Q he h
  cases cst <;> first | (cases he; exact h) | exact nomatch he
 ·intro kd x he ρ σ Q h
  cases cst <;> first | (cases he; exact False.elim h) | exact nomatch he
theorem t3_name {id:Str} {pos:Pos} (W:CfgOk c) (G:GOk c n Γ):T3 c Γ n (.Name id pos):=by
 refine ⟨sx_name W G, st_of (sx_name W G) (fun _ _ => rfl) ?_, si_of (sx_name W G) ?_⟩
 ·intro kd x ρ σ Q he h
  obtain ⟨_, _, _, q⟩:=er_Name he
  rcases q with ⟨_, rfl⟩ | ⟨_, rfl⟩
  ·exact h
  ·exact False.elim h
 ·intro kd x ρ σ Q he h
  obtain ⟨_, _, _, q⟩:=er_Name he
  rcases q with ⟨_, rfl⟩ | ⟨_, rfl⟩
  ·exact h
  ·exact False.elim h
theorem t3_call {id:Str} {p pos:Pos} {args:List PySem.Expr} (W:CfgOk c) (G:GOk c n Γ) (hs:∀ e ∈ args, SX c Γ n e):T3 c Γ n (.Call (.Name id p) args [] pos):=by
 refine ⟨sx_call W G hs, st_of (sx_call W G hs) (fun _ _ => rfl) ?_, si_call W G hs⟩
 intro kd x ρ σ Q he h
 obtain ⟨_, _, _, xs, _, q⟩:=er_Call he
 rcases q with ⟨_, rfl⟩ | ⟨_, b, _, rfl⟩ | ⟨_, _, rfl⟩
 ·exact False.elim h
 ·exact False.elim h
 ·exact h
theorem t3_meth {o:PySem.Expr} {name:Str} {apos pos:Pos} {args:List PySem.Expr} (W:CfgOk c) (G:GOk c n Γ) (ho:SX c Γ n o) (hs:∀ e ∈ args, SX c Γ n e):T3 c Γ n (.Call (.Attribute o name apos) args [] pos):=by
 refine .only (sx_meth W G ho hs) fun kd x he => ?_
 obtain ⟨_, _, _, _, xo, xs, _, _, rfl⟩:=er_Meth he
 exact ⟨fun ρ σ Q h => h, fun ρ σ Q h => h⟩
theorem t3_sub {o i:PySem.Expr} {pos:Pos} (W:CfgOk c) (ho:SX c Γ n o) (hi:SX c Γ n i) (hn:notSlice i = true):T3 c Γ n (.Subscript o i pos):=by
 have shape:∀ {kd x}, er (.Subscript o i pos) kd = some x → ∃ xo xi, x = .sub xo xi:=fun he => let ⟨xo, _, xi, _, e⟩:=er_sub hn he; ⟨xo, xi, e⟩
 refine ⟨sx_sub W ho hi hn, st_of (sx_sub W ho hi hn) (fun _ _ => rfl) ?_, si_of (sx_sub W ho hi hn) ?_⟩
 ·intro kd x ρ σ Q he h
  obtain ⟨xo, xi, rfl⟩:=shape he
  exact h
 ·intro kd x ρ σ Q he h
  obtain ⟨xo, xi, rfl⟩:=shape he
  exact h
theorem t3_slice {o:PySem.Expr} {lo hi:Option PySem.Expr} {p pos:Pos} (W:CfgOk c) (ho:SX c Γ n o) (hl:∀ e, lo = some e → SX c Γ n e) (hh:∀ e, hi = some e → SX c Γ n e):T3 c Γ n (.Subscript o (.Slice lo hi none p) pos):=by
 have shape:∀ {kd x}, er (.Subscript o (.Slice lo hi none p) pos) kd = some x → ∃ a b d, x = .slice a b d:=fun he => let ⟨a, _, b, _, d, _, e⟩:=er_slice he; ⟨a, b, d, e⟩
 refine ⟨sx_slice W ho hl hh, ST.no ?_, si_of (sx_slice W ho hl hh) ?_⟩
 ·intro kd x he ρ σ Q h
  obtain ⟨_, _, _, rfl⟩:=shape he
  exact False.elim h
 ·intro kd x ρ σ Q he h
  obtain ⟨_, _, _, rfl⟩:=shape he
  exact h
theorem t3_attr {o:PySem.Expr} {name:Str} {pos:Pos} (W:CfgOk c) (ho:SX c Γ n o):T3 c Γ n (.Attribute o name pos):=by
 have shape:∀ {kd x}, er (.Attribute o name pos) kd = some x → ∃ a, x = .attr a name:=fun he => let ⟨_, a, _, e⟩:=er_attr he; ⟨a, e⟩
 refine ⟨sx_attr W ho, ST.no ?_, si_of (sx_attr W ho) ?_⟩
 ·intro kd x he ρ σ Q h
  obtain ⟨_, rfl⟩:=shape he
  exact False.elim h
 ·intro kd x ρ σ Q he h
  obtain ⟨_, rfl⟩:=shape he
  exact h
theorem er_lc_bad {e:PySem.Expr} {gens:List Comprehension} {sc:Scope} {p:Pos} {kd:Kinds} (h:erC gens kd (scKinds sc) = none):er (.ListComp e gens sc p) kd = none:=by
 show (erC gens kd (scKinds sc)).bind _ = none
 rw [h]; rfl
theorem er_dc_bad {a b:PySem.Expr} {gens:List Comprehension} {sc:Scope} {p:Pos} {kd:Kinds} (h:erC gens kd (scKinds sc) = none):er (.DictComp a b gens sc p) kd = none:=by
 show (erC gens kd (scKinds sc)).bind _ = none
 rw [h]; rfl
theorem erC_two {a b:Comprehension} {r:List Comprehension} {k k':Kinds}:erC (a :: b :: r) k k' = none:=by
 obtain ⟨t, it, ifs, as⟩:=a
 cases t <;> rfl
theorem one_clause (gens:List Comprehension):(∃ x p it ifs as, gens = [⟨.Name x p, it, ifs, as⟩]) ∨ ∀ k k', erC gens k k' = none:=by
 cases gens with
 | nil => exact .inr fun _ _ => rfl
 | cons g r =>
  cases r with
  | cons g' r' => exact .inr fun _ _ => erC_two
  | nil =>
   obtain ⟨t, it, ifs, as⟩:=g
   cases t with
   | Name x p => exact .inl ⟨x, p, it, ifs, as, rfl⟩
   | _ => exact .inr fun _ _ => rfl
theorem mem_lt {es:List PySem.Expr} {e:PySem.Expr} (h:e ∈ es):sizeOf e < sizeOf es:=List.sizeOf_lt_of_mem h
theorem szs {x:Nat}:∀ {L:List Nat} {s:Nat}, x < s → x < L.foldl (· + ·) s
 | [], _, h => h
 | _ :: L, _, h => szs (L:=L) (Nat.lt_add_right _ h)
theorem szl {x:Nat}:∀ {L:List Nat} {s:Nat}, x ∈ L → x < L.foldl (· + ·) (1 + s)
 | a :: L, s, h => by
  rcases List.mem_cons.mp h with rfl | h
  ·exact szs (L:=L) (Nat.lt_add_of_pos_left (Nat.lt_of_lt_of_le Nat.one_pos (Nat.le_add_right 1 s)))
  ·show x < L.foldl (· + ·) (1 + s + a)
   rw [Nat.add_assoc]
   exact szl h
theorem sze {x s:Nat} (L:List Nat) (e:s = L.foldl (· + ·) 1) (h:x ∈ L):x < s:=Nat.lt_of_lt_of_eq (szl (s:=0) h) e.symm
theorem dn {a s N:Nat} (h:s < N + 1) (e:a < s):a < N:=Nat.lt_of_lt_of_le e (Nat.le_of_lt_succ h)
theorem dn2 {a b s N:Nat} (h:s < N + 1) (e1:a < b) (e:b < s):a < N:=dn h (Nat.lt_trans e1 e)
theorem cl_in {g:Comprehension}:sizeOf g < sizeOf [g]:=sze [sizeOf g, 1] (List.cons.sizeOf_spec ..) (.head _)
theorem cl_it {t it:PySem.Expr} {ifs:List PySem.Expr} {as:Int}:sizeOf it < sizeOf [(⟨t, it, ifs, as⟩:Comprehension)] :=
 Nat.lt_trans (sze [sizeOf t, sizeOf it, sizeOf ifs, sizeOf as] (PySem.Comprehension.mk.sizeOf_spec ..) (.tail _ (.head _))) cl_in
theorem cl_ifs {t it:PySem.Expr} {ifs:List PySem.Expr} {as:Int}:sizeOf ifs < sizeOf [(⟨t, it, ifs, as⟩:Comprehension)] :=
 Nat.lt_trans (sze [sizeOf t, sizeOf it, sizeOf ifs, sizeOf as] (PySem.Comprehension.mk.sizeOf_spec ..) (.tail _ (.tail _ (.head _)))) cl_in
section
variable {a b d:PySem.Expr} {p:Pos} {es:List PySem.Expr}
theorem z_bin1 {o:Operator}:sizeOf a < sizeOf (PySem.Expr.BinOp a o b p):=sze [sizeOf a, sizeOf o, sizeOf b, sizeOf p] (PySem.Expr.BinOp.sizeOf_spec ..) (.head _)
theorem z_bin2 {o:Operator}:sizeOf b < sizeOf (PySem.Expr.BinOp a o b p):=sze [sizeOf a, sizeOf o, sizeOf b, sizeOf p] (PySem.Expr.BinOp.sizeOf_spec ..) (.tail _ (.tail _ (.head _)))
theorem z_un {o:UnaryOp}:sizeOf a < sizeOf (PySem.Expr.UnaryOp o a p):=sze [sizeOf o, sizeOf a, sizeOf p] (PySem.Expr.UnaryOp.sizeOf_spec ..) (.tail _ (.head _))
theorem z_bool {o:BoolOp}:sizeOf es < sizeOf (PySem.Expr.BoolOp o es p):=sze [sizeOf o, sizeOf es, sizeOf p] (PySem.Expr.BoolOp.sizeOf_spec ..) (.tail _ (.head _))
theorem z_if1:sizeOf a < sizeOf (PySem.Expr.IfExp a b d p):=sze [sizeOf a, sizeOf b, sizeOf d, sizeOf p] (PySem.Expr.IfExp.sizeOf_spec ..) (.head _)
theorem z_if2:sizeOf b < sizeOf (PySem.Expr.IfExp a b d p):=sze [sizeOf a, sizeOf b, sizeOf d, sizeOf p] (PySem.Expr.IfExp.sizeOf_spec ..) (.tail _ (.head _))
theorem z_if3:sizeOf d < sizeOf (PySem.Expr.IfExp a b d p):=sze [sizeOf a, sizeOf b, sizeOf d, sizeOf p] (PySem.Expr.IfExp.sizeOf_spec ..) (.tail _ (.tail _ (.head _)))
theorem z_cmp1 {os:List CmpOp}:sizeOf a < sizeOf (PySem.Expr.Compare a os es p):=sze [sizeOf a, sizeOf os, sizeOf es, sizeOf p] (PySem.Expr.Compare.sizeOf_spec ..) (.head _)
theorem z_cmp2 {os:List CmpOp}:sizeOf es < sizeOf (PySem.Expr.Compare a os es p):=sze [sizeOf a, sizeOf os, sizeOf es, sizeOf p] (PySem.Expr.Compare.sizeOf_spec ..) (.tail _ (.tail _ (.head _)))
theorem z_call1 {ks:List Keyword}:sizeOf a < sizeOf (PySem.Expr.Call a es ks p):=sze [sizeOf a, sizeOf es, sizeOf ks, sizeOf p] (PySem.Expr.Call.sizeOf_spec ..) (.head _)
theorem z_call2 {ks:List Keyword}:sizeOf es < sizeOf (PySem.Expr.Call a es ks p):=sze [sizeOf a, sizeOf es, sizeOf ks, sizeOf p] (PySem.Expr.Call.sizeOf_spec ..) (.tail _ (.head _))
theorem z_attr {x:Str}:sizeOf a < sizeOf (PySem.Expr.Attribute a x p):=sze [sizeOf a, sizeOf x, sizeOf p] (PySem.Expr.Attribute.sizeOf_spec ..) (.head _)
theorem z_sub1:sizeOf a < sizeOf (PySem.Expr.Subscript a b p):=sze [sizeOf a, sizeOf b, sizeOf p] (PySem.Expr.Subscript.sizeOf_spec ..) (.head _)
theorem z_sub2:sizeOf b < sizeOf (PySem.Expr.Subscript a b p):=sze [sizeOf a, sizeOf b, sizeOf p] (PySem.Expr.Subscript.sizeOf_spec ..) (.tail _ (.head _))
theorem z_some {e:PySem.Expr}:sizeOf e < sizeOf (some e):=sze [sizeOf e] (Option.some.sizeOf_spec ..) (.head _)
theorem z_sl1 {x y z:Option PySem.Expr}:sizeOf x < sizeOf (PySem.Expr.Slice x y z p):=sze [sizeOf x, sizeOf y, sizeOf z, sizeOf p] (PySem.Expr.Slice.sizeOf_spec ..) (.head _)
theorem z_sl2 {x y z:Option PySem.Expr}:sizeOf y < sizeOf (PySem.Expr.Slice x y z p):=sze [sizeOf x, sizeOf y, sizeOf z, sizeOf p] (PySem.Expr.Slice.sizeOf_spec ..) (.tail _ (.head _))
theorem z_tup {k}:sizeOf es < sizeOf (PySem.Expr.Tuple es k p):=sze [sizeOf es, sizeOf k, sizeOf p] (PySem.Expr.Tuple.sizeOf_spec ..) (.head _)
theorem z_list:sizeOf es < sizeOf (PySem.Expr.List es p):=sze [sizeOf es, sizeOf p] (PySem.Expr.List.sizeOf_spec ..) (.head _)
theorem z_dict {ks:List (Option PySem.Expr)}:sizeOf es < sizeOf (PySem.Expr.Dict ks es p):=sze [sizeOf ks, sizeOf es, sizeOf p] (PySem.Expr.Dict.sizeOf_spec ..) (.tail _ (.head _))
theorem z_lc1 {gs:List Comprehension} {sc:Scope}:sizeOf a < sizeOf (PySem.Expr.ListComp a gs sc p):=sze [sizeOf a, sizeOf gs, sizeOf sc, sizeOf p] (PySem.Expr.ListComp.sizeOf_spec ..) (.head _)
theorem z_lc2 {gs:List Comprehension} {sc:Scope}:sizeOf gs < sizeOf (PySem.Expr.ListComp a gs sc p):=sze [sizeOf a, sizeOf gs, sizeOf sc, sizeOf p] (PySem.Expr.ListComp.sizeOf_spec ..) (.tail _ (.head _))
theorem z_dc1 {gs:List Comprehension} {sc:Scope}:sizeOf a < sizeOf (PySem.Expr.DictComp a b gs sc p):=sze [sizeOf a, sizeOf b, sizeOf gs, sizeOf sc, sizeOf p] (PySem.Expr.DictComp.sizeOf_spec ..) (.head _)
theorem z_dc2 {gs:List Comprehension} {sc:Scope}:sizeOf b < sizeOf (PySem.Expr.DictComp a b gs sc p):=sze [sizeOf a, sizeOf b, sizeOf gs, sizeOf sc, sizeOf p] (PySem.Expr.DictComp.sizeOf_spec ..) (.tail _ (.head _))
theorem z_dc3 {gs:List Comprehension} {sc:Scope}:sizeOf gs < sizeOf (PySem.Expr.DictComp a b gs sc p):=sze [sizeOf a, sizeOf b, sizeOf gs, sizeOf sc, sizeOf p] (PySem.Expr.DictComp.sizeOf_spec ..) (.tail _ (.tail _ (.head _)))
end
theorem all_cmp (W:CfgOk c) {l:PySem.Expr} {pos:Pos} (L:T3 c Γ n l):∀ {ops:List CmpOp} {rs:List PySem.Expr}, (∀ e ∈ rs, T3 c Γ n e) → T3 c Γ n (.Compare l ops rs pos)
 | [], _, _ => .bad fun _ => rfl
 | [_], [], _ => .bad fun _ => rfl
 | [op], [r], R =>
  have R:=R r (.head _)
  ⟨sx_cmp W L.1 R.1, st_cmp W L.1 R.1, SI.no fun kd x he ρ σ Q h => by obtain ⟨_, _, _, _, rfl⟩:=er_cmp he; exact h⟩
 | [_], _ :: _ :: _, _ => .bad fun _ => rfl
 | [_, _], [], _ => .bad fun _ => rfl
 | [_, _], [_], _ => .bad fun _ => rfl
 | [o1, o2], [m, r], R =>
  have M:=R m (.head _)
  have R:=R r (.tail _ (.head _))
  ⟨SX.no fun kd x he ρ σ Q h => (by obtain ⟨_, _, _, _, _, _, rfl⟩:=er_chain he; exact h), st_chain W L.1 M.1 R.1, SI.no fun kd x he ρ σ Q h => by obtain ⟨_, _, _, _, _, _, rfl⟩:=er_chain he; exact h⟩
 | [_, _], _ :: _ :: _ :: _, _ => .bad fun _ => rfl
 | _ :: _ :: _ :: _, _, _ => .bad fun _ => rfl
theorem all_ih {N:Nat} (ih:∀ e:PySem.Expr, sizeOf e < N → T3 c Γ n e) {e:PySem.Expr} (hN:sizeOf e < N + 1) {es:List PySem.Expr} (z:sizeOf es < sizeOf e):∀ a ∈ es, T3 c Γ n a:=fun a ha => ih a (dn2 hN (mem_lt ha) z)
section
variable {op:Operator} {a b:X} {xs:List X} {ks:List Str} {y:Str} {ifs:List X}
theorem pl_bin:Pl Γ (.bin op a b):=⟨fun _ _ _ h => h, fun _ _ _ h => h⟩
theorem pl_neg:Pl Γ (.neg a):=⟨fun _ _ _ h => h, fun _ _ _ h => h⟩
theorem pl_tup:Pl Γ (.tup xs):=⟨fun _ _ _ h => h, fun _ _ _ h => h⟩
theorem pl_list:Pl Γ (.list xs):=⟨fun _ _ _ h => h, fun _ _ _ h => h⟩
theorem pl_dict:Pl Γ (.dict ks xs):=⟨fun _ _ _ h => h, fun _ _ _ h => h⟩
theorem pl_lcomp:Pl Γ (.lcomp a y b ifs):=⟨fun _ _ _ h => h, fun _ _ _ h => h⟩
theorem pl_dcomp {d:X}:Pl Γ (.dcomp a b y d ifs):=⟨fun _ _ _ h => h, fun _ _ _ h => h⟩
end
theorem all_of (W:CfgOk c) (G:GOk c n Γ):∀ (N:Nat) (e:PySem.Expr), sizeOf e < N → T3 c Γ n e:=by
 intro N
 induction N with
 | zero => intro e h; exact absurd h (Nat.not_lt_zero _)
 | succ N ih =>
  intro e hN
  cases e with
  | Constant cst kk pos => exact t3_const
  | Name id pos => exact t3_name W G
  | BinOp l op r pos =>
   exact .only (sx_bin (ih l (dn hN z_bin1)).1 (ih r (dn hN z_bin2)).1) fun kd x he => let ⟨_, _, _, _, e⟩:=er_bin he; e ▸ pl_bin
  | UnaryOp op a pos =>
   have A:=ih a (dn hN z_un)
   cases op with
   | USub =>
    exact .only (sx_neg A.1) fun kd x he => let ⟨_, _, e⟩:=er_neg he; e ▸ pl_neg
   | Not =>
    refine ⟨sx_not A.1, st_not A.2.1, SI.no fun kd x he ρ σ Q h => ?_⟩
    obtain ⟨_, _, rfl⟩:=er_not he
    exact h
   | _ => exact .bad fun kd => rfl
  | BoolOp op xs pos =>
   have A:=all_ih ih hN z_bool
   refine ⟨sx_boolop fun e he => (A e he).1, st_boolop fun e he => (A e he).2.1, SI.no fun kd x he ρ σ Q h => ?_⟩
   obtain ⟨_, _, rfl⟩:=er_boolop he
   exact h
  | IfExp t a b pos =>
   have T:=ih t (dn hN z_if1); have A:=ih a (dn hN z_if2); have B:=ih b (dn hN z_if3)
   refine ⟨sx_ite T.2.1 A.1 B.1, st_ite T.2.1 A.2.1 B.2.1, SI.no fun kd x he ρ σ Q h => ?_⟩
   obtain ⟨_, _, _, _, _, _, rfl⟩:=er_ite he
   exact h
  | Compare l ops rs pos => exact all_cmp W (ih l (dn hN z_cmp1)) (all_ih ih hN z_cmp2)
  | Call f args kws pos =>
   have A:∀ e ∈ args, SX c Γ n e:=fun e he => (all_ih ih hN z_call2 e he).1
   cases kws with
   | cons a r => exact .bad fun kd => rfl
   | nil =>
    cases f with
    | Name id p => exact t3_call W G A
    | Attribute o name apos => exact t3_meth W G (ih o (dn2 hN z_attr z_call1)).1 A
    | _ => exact .bad fun kd => rfl
  | Attribute o name pos => exact t3_attr W (ih o (dn hN z_attr)).1
  | Subscript o i pos =>
   have O:=ih o (dn hN z_sub1)
   cases i with
   | Slice lo hi st p =>
    cases st with
    | none =>
     refine t3_slice W O.1 (fun e h => ?_) (fun e h => ?_)
     ·subst h; exact (ih e (dn2 hN (Nat.lt_trans z_some z_sl1) z_sub2)).1
     ·subst h; exact (ih e (dn2 hN (Nat.lt_trans z_some z_sl2) z_sub2)).1
    | some e => exact .bad fun kd => rfl
   | _ => exact t3_sub W O.1 (ih _ (dn hN z_sub2)).1 rfl
  | Tuple es k pos =>
   exact .only (sx_tuple fun e he => (all_ih ih hN z_tup e he).1) fun kd x he => let ⟨_, _, _, e⟩:=er_tup he; e ▸ pl_tup
  | List es pos =>
   exact .only (sx_list fun e he => (all_ih ih hN z_list e he).1) fun kd x he => let ⟨_, _, _, e⟩:=er_list he; e ▸ pl_list
  | Dict ks vs pos =>
   exact .only (sx_dict fun e he => (all_ih ih hN z_dict e he).1) fun kd x he => let ⟨_, _, _, _, _, e⟩:=er_dict he; e ▸ pl_dict
  | ListComp elt gens sc pos =>
   rcases one_clause gens with ⟨x, px, it, ifs, as, rfl⟩ | q
   ·exact .only (sx_lcomp W (ih it (dn2 hN cl_it z_lc2)).2.2 (ih elt (dn hN z_lc1)).1 fun e he => (ih e (dn2 hN (Nat.lt_trans (mem_lt he) cl_ifs) z_lc2)).2.1) fun kd x he => let ⟨_, _, _, _, _, _, _, _, e⟩:=er_lcomp he; e ▸ pl_lcomp
   ·exact .bad fun kd => er_lc_bad (q _ _)
  | DictComp ek ev gens sc pos =>
   rcases one_clause gens with ⟨x, px, it, ifs, as, rfl⟩ | q
   ·exact .only (sx_dcomp W (ih it (dn2 hN cl_it z_dc3)).2.2 (ih ek (dn hN z_dc1)).1 (ih ev (dn hN z_dc2)).1 fun e he => (ih e (dn2 hN (Nat.lt_trans (mem_lt he) cl_ifs) z_dc3)).2.1) fun kd x he => let ⟨_, _, _, _, _, _, _, _, _, _, e⟩:=er_dcomp he; e ▸ pl_dcomp
   ·exact .bad fun kd => er_dc_bad (q _ _)
  | _ => exact .bad fun kd => rfl
end
end Mini
end
section
namespace Mini
open PySem PySem.W PyProof.Rows
noncomputable def FlR (h:Heap):Fl → Flow → Prop
 | .next, .next => True
 | .cont, .cont => True
 | .ret v, .ret val => VR h v val
 | _, _ => False
noncomputable def PostS (c:Cfg) (env:Env) (s:Shared) (σ:Store) (Q:Fl → Loc → Store → Prop) (Q':Flow → Shared → Prop):Prop :=
 ∀ f ρ' σ' fl h' tk', GoS c env σ s.heap σ' h' → EnvR c env ρ' σ' h' → FlR h' f fl → Q f ρ' σ' → Q' fl { s with heap:=h', toks:=tk' }
noncomputable def SS (c:Cfg) (Γ:GE) (n:Nat) (st:PySem.Stmt):Prop:=∀ (env:Env) (y:S), erS st env.kindOf = some y → ∀ (A:Around) E s σ ρ Q Q', AOk A n → Ok c σ s.heap → EnvR c env ρ σ s.heap → wS Γ y ρ σ Q → PostS c env s σ Q Q' →
 wpAny (model c.prog c.w) A (exec st env) Q' E s
noncomputable def SB (c:Cfg) (Γ:GE) (n:Nat) (sts:List PySem.Stmt):Prop:=∀ (env:Env) (ys:List S), erSs sts env.kindOf = some ys → ∀ (A:Around) E s σ ρ Q Q', AOk A n → Ok c σ s.heap → EnvR c env ρ σ s.heap → wSs Γ ys ρ σ Q → PostS c env s σ Q Q' →
 wpAny (model c.prog c.w) A (execs sts env) Q' E s
section
variable {c:Cfg} {Γ:GE} {n:Nat} {env:Env}
theorem stepS {s:Shared} {σ σ₁:Store} {h₁:Heap} {tk₁:Nat} {Q:Fl → Loc → Store → Prop} {Q':Flow → Shared → Prop} (g:GoS c env σ s.heap σ₁ h₁) (P:PostS c env s σ Q Q'):PostS c env { s with heap:=h₁, toks:=tk₁ } σ₁ Q Q' :=
 fun f ρ' σ' fl h' tk' g' r fr q => P f ρ' σ' fl h' tk' (g.trans g') r fr q
theorem sb_nil:SB c Γ n []:=by
 intro env ys he A E s σ ρ Q Q' hA k R h P
 cases er_snil he
 exact wpAny_execs_nil (P .next ρ σ .next s.heap s.toks (GoS.refl k) R trivial h)
theorem sb_cons {st:PySem.Stmt} {r:List PySem.Stmt} (hs:SS c Γ n st) (hr:SB c Γ n r):SB c Γ n (st :: r):=by
 intro env ys he A E s σ ρ Q Q' hA k R h P
 obtain ⟨y, e1, zs, e2, rfl⟩:=er_scons he
 refine wpAny_execs_cons (hs env y e1 A E s σ ρ _ _ hA k R h fun f ρ₁ σ₁ fl h₁ tk₁ g₁ R₁ fr q => ?_)
 cases f with
 | next =>
  cases fl <;> first | exact fr.elim | skip
  exact hr env zs e2 A E _ σ₁ ρ₁ Q Q' hA g₁.ok R₁ q (stepS (s:=s) g₁ P)
 | cont =>
  cases fl <;> first | exact fr.elim | skip
  exact P _ ρ₁ σ₁ _ h₁ tk₁ g₁ R₁ fr q
 | ret v =>
  cases fl <;> first | exact fr.elim | skip
  exact P _ ρ₁ σ₁ _ h₁ tk₁ g₁ R₁ fr q
theorem ss_ret {e:PySem.Expr} {pos:Pos} (hS:SX c Γ n e):SS c Γ n (.Return (some e) pos):=by
 intro env y he A E s σ ρ Q Q' hA k R h P
 obtain ⟨x, e1, rfl⟩:=er_ret he
 show wpAny _ A (standAt pos >>= fun _ => eval e env >>= fun v => pure (Flow.ret v)) Q' E s
 refine wpAny_bind (wpAny_standAt (wpAny_bind (hS.run e1 (.refl _) hA k R h fun v σ₁ a h₁ tk₁ g₁ ru q₁ => wpAny_pure ?_)))
 exact P (.ret v) ρ σ₁ (.ret a) h₁ tk₁ (g₁.toS k) (R.go k g₁) ru q₁
theorem ss_cont {pos:Pos}:SS c Γ n (.Continue pos):=by
 intro env y he A E s σ ρ Q Q' hA k R h P
 cases he
 exact wpAny_Continue (P .cont ρ σ .cont s.heap s.toks (GoS.refl k) R trivial h)
theorem ss_if {t:PySem.Expr} {a b:List PySem.Stmt} {pos:Pos} (ht:ST c Γ n t) (ha:SB c Γ n a) (hb:SB c Γ n b):SS c Γ n (.If t a b pos):=by
 intro env y he A E s σ ρ Q Q' hA k R h P
 obtain ⟨xt, e1, xa, e2, xb, e3, rfl⟩:=er_if he
 show wpAny _ A (standAt pos >>= fun _ => isTrue t env (eval t env) >>= fun q => if q then execs a env else execs b env) Q' E s
 refine wpAny_bind (wpAny_standAt (wpAny_bind (ht.run e1 (.refl _) hA k R h fun tb σ₁ h₁ tk₁ g₁ q₁ => ?_)))
 cases tb with
 | true => exact ha env xa e2 A E _ σ₁ ρ Q Q' hA g₁.ok (R.go k g₁) q₁ (stepS (s:=s) (g₁.toS k) P)
 | false => exact hb env xb e3 A E _ σ₁ ρ Q Q' hA g₁.ok (R.go k g₁) q₁ (stepS (s:=s) (g₁.toS k) P)
theorem noSwap {e:PySem.Expr} (h:notComp e = true) (t:Option PySem.Expr) (l:Nat):swapsWith e t l env = pure false:=by
 cases e <;> first | rfl | exact absurd h Bool.false_ne_true
theorem ss_expr {e:PySem.Expr} {pos:Pos} (hS:SX c Γ n e):SS c Γ n (.Expr e pos):=by
 intro env y he A E s σ ρ Q Q' hA k R h P
 obtain ⟨nc, x, e1, rfl⟩:=er_expr he
 refine wpAny_Expr_any (hS.run e1 (.refl _) hA k R h fun v σ₁ a h₁ tk₁ g₁ ru q₁ => P .next ρ σ₁ .next h₁ tk₁ (g₁.toS k) (R.go k g₁) trivial q₁.2) (by unfold interactive; rw [R.fn]; rfl) (noSwap nc none _)
theorem varK_of {o:Option NameKind} (h:(isVarK o && o != some .free) = true):o = some .local ∨ o = some .cell:=by
 cases o with
 | none => exact nomatch h
 | some k => cases k <;> first | exact .inl rfl | exact .inr rfl | exact absurd h Bool.false_ne_true
theorem name_run {M:Model} {x:Str} {A:Around} {E} {s:Shared} {σ σ₁:Store} {ρ:Loc} {v:V} {a:Value} {h₁:Heap} {tk₁:Nat} {Q:Fl → Loc → Store → Prop} {Q':Flow → Shared → Prop} (hx:env.kindOf x = some .local ∨ env.kindOf x = some .cell) (k:Ok c σ s.heap)
  (g₁:Go c σ s.heap σ₁ h₁) (R₁:EnvR c env ρ σ₁ h₁) (ru:VR h₁ v a) (q:Q .next (ρ.set x v) σ₁) (P:PostS c env s σ Q Q'):wpAny M A (storeName env x a) (fun _ => Q' .next) E { s with heap:=h₁, toks:=tk₁ } :=
 store_name (s:={ s with heap:=h₁, toks:=tk₁ }) g₁.ok R₁ hx ru fun h' tk' g' R' => P .next _ σ₁ .next h' tk' ((g₁.toS k).trans g') R' trivial q
theorem ss_assign {x:Str} {p pos:Pos} {e:PySem.Expr} (hS:SX c Γ n e) (hnc:notComp e = true):SS c Γ n (.Assign [.Name x p] e pos):=by
 intro env y he A E s σ ρ Q Q' hA k R h P
 obtain ⟨hk, xe, e1, rfl⟩:=er_assign he
 exact wpAny_Assign_Name (hS.run e1 (.refl _) hA k R h fun v σ₁ a h₁ tk₁ g₁ ru q₁ => name_run (varK_of hk) k g₁ (R.go k g₁) ru q₁ P) (noSwap hnc _ _)
theorem ss_setSub {o i e:PySem.Expr} {p pos:Pos} (W:CfgOk c) (hO:SX c Γ n o) (hI:SX c Γ n i) (hS:SX c Γ n e):SS c Γ n (.Assign [.Subscript o i p] e pos):=by
 intro env y he A E s σ ρ Q Q' hA k R h P
 obtain ⟨hn, xo, e1, xi, e2, xe, e3, rfl⟩:=er_setSub he
 have hs:swapsWith e (some (.Subscript o i p)) pos.line env = pure false:=by cases e <;> rfl
 refine wpAny_Assign_Subscript (hS.run e3 (.refl _) hA k R h fun v σ₁ a h₁ tk₁ g₁ ru q₁ => ?_) hs
 have R₁:=R.go k g₁
 refine hO.run e1 (.refl _) hA g₁.ok R₁ q₁ fun u σ₂ b h₂ tk₂ g₂ ro q₂ => ?_
 have R₂:=R₁.go g₁.ok g₂
 refine hI.run e2 (.refl _) hA g₂.ok R₂ q₂ fun j σ₃ d h₃ tk₃ g₃ ri q₃ => ?_
 have R₃:=R₂.go g₂.ok g₃
 refine r_setItem W hA g₃.ok (g₃.vr g₂.ok ro) ri (g₃.vr g₂.ok (g₂.vr g₁.ok ru)) q₃ fun σ₄ h₄ tk₄ g₄ q₄ => ?_
 exact P .next ρ σ₄ .next h₄ tk₄ ((((g₁.trans g₂).trans g₃).trans g₄).toS k) (R₃.go g₃.ok g₄) trivial q₄
theorem ss_setAttr {o e:PySem.Expr} {x:Str} {p pos:Pos} (W:CfgOk c) (hO:SX c Γ n o) (hS:SX c Γ n e):SS c Γ n (.Assign [.Attribute o x p] e pos):=by
 intro env y he A E s σ ρ Q Q' hA k R h P
 obtain ⟨hn, xo, e1, xe, e3, rfl⟩:=er_setAttr he
 rw [exec_Assign]
 have hs:swapsWithSole [.Attribute o x p] e pos.line env = pure false:=by cases e <;> rfl
 have hw:swappedStores [.Attribute o x p] e env = pure none:=by cases e <;> rfl
 refine wpAny_bind (wpAny_standAt (wpAny_bind (wpAny_of_eq hs ?_)))
 refine wpAny_bind (hS.run e3 (.refl _) hA k R h fun v σ₁ a h₁ tk₁ g₁ ru q₁ => wpAny_bind (wpAny_of_eq hw ?_))
 have R₁:=R.go k g₁
 show wpAny _ A (assign (.Attribute o x p) env a >>= fun _ => pure Flow.next) Q' E _
 refine wpAny_bind ?_
 show wpAny _ A (holding [a] (eval o env) >>= _) _ E _
 refine wpAny_bind (wpAny_holding (hO.run e1 (.refl _) hA g₁.ok R₁ q₁ fun u σ₂ b h₂ tk₂ g₂ ro q₂ => ?_))
 refine wpAny_bind (wpAny_standAt (wpAny_bind (wpAny_holding ?_)))
 refine r_setAttr W (List.contains_iff_mem.mp hn) g₂.ok ro (g₂.vr g₁.ok ru) q₂ fun σ₄ h₄ tk₄ g₄ q₄ => wpAny_release (wpAny_pure ?_)
 exact P .next ρ σ₄ .next h₄ tk₄ (((g₁.trans g₂).trans g₄).toS k) ((R₁.go g₁.ok g₂).go g₂.ok g₄) trivial q₄
theorem ss_augAttr {o e:PySem.Expr} {x:Str} {op:Operator} {p pos:Pos} (W:CfgOk c) (hO:SX c Γ n o) (hS:SX c Γ n e):SS c Γ n (.AugAssign (.Attribute o x p) op e pos):=by
 intro env y he A E s σ ρ Q Q' hA k R h P
 obtain ⟨hn, xo, e1, xe, e3, rfl⟩:=er_aug he
 have hn':x ∈ attrNames:=List.contains_iff_mem.mp hn
 refine wpAny_AugAssign_AttributeAny (hO.run e1 (.refl _) hA k R h fun u σ₁ b h₁ tk₁ g₁ ro q₁ => ?_)
 have R₁:=R.go k g₁
 refine r_getAttr W hn' g₁.ok ro q₁ fun old σ₂ ov h₂ tk₂ g₂ rold q₂ => ?_
 have R₂:=R₁.go g₁.ok g₂
 refine hS.run e3 (.refl _) hA g₂.ok R₂ q₂ fun v σ₃ a h₃ tk₃ g₃ ru q₃ => ?_
 obtain ⟨i, j, rfl, rfl, rfl, q₃⟩:=q₃
 obtain ⟨t, rfl⟩:=rold
 obtain ⟨t', rfl⟩:=ru
 refine wpAny_iadd_int ?_
 refine r_setAttr W hn' g₃.ok (g₃.vr g₂.ok (g₂.vr g₁.ok ro)) (.int _ _ _) q₃ fun σ₄ h₄ tk₄ g₄ q₄ => ?_
 exact P .next ρ σ₄ .next h₄ tk₄ ((((g₁.trans g₂).trans g₃).trans g₄).toS k) ((R₂.go g₂.ok g₃).go g₃.ok g₄) trivial q₄
end
end Mini
end
section
namespace Mini
open PySem PySem.W PyProof.Rows
section
variable {c:Cfg} {Γ:GE} {n:Nat} {env:Env}
theorem use_run {y:Str} {py:Pos} {A:Around} {E} {s:Shared} {σ σ':Store} {ρ:Loc} {D C:Addr} {h':Heap} {tk:Nat} {m:Str → Option Value} {Q:Fl → Loc → Store → Prop} {Q':Flow → Shared → Prop} (hx:env.kindOf y = some .local ∨ env.kindOf y = some .cell) (k:Ok c σ s.heap) (R:EnvR c env ρ σ s.heap)
  (g:Go c σ s.heap σ' h') (q:Q .next (ρ.set y (.ref D)) σ') (ns:h'.Ns C m) (oC:σ' C = none) (bC:c.base.get? C = none) (fC:s.heap.objs.size ≤ C ∨ s.heap.get? C = none) (nO:¬ Own env C) (P:PostS c env s σ Q Q') :
  compPost (model c.prog c.w) A E (some (assign (.Name y py) env)) (fun _ s' => Q' .next s') (.ref D) C (.ok .next) { s with heap:=h', toks:=tk }:=by
 show wpAny _ A (assign (.Name y py) env (.ref D)) _ E _
 refine wpAny_assign_Name (store_name (s:={ s with heap:=h', toks:=tk }) (v:=.ref D) g.ok (R.go k g) hx rfl fun h₂ tk₂ g₂ R₂ => ?_)
 obtain ⟨oC', eC, nC⟩:=ns_at ns
 have ns₂:h₂.Ns C m:=ns.at' fun o e => g₂.keep C o e (Mut.none oC) nO
 have eC₂:=g₂.keep C oC' eC (Mut.none oC) nO
 refine ⟨m, ns₂, fun h₃ hs₃ => ?_⟩
 have t:TupKeep h₂ h₃:=fun y o e q d => (hs₃.2 y (fun z => by subst z; rw [eC₂] at e; cases e; exact nC d)).trans e
 have oC₂:σ' C = none:=oC
 have gg:GoS c env σ s.heap σ' h₂:=(g.toS k).trans g₂
 exact P .next _ σ' .next h₃ tk₂ (gg.poke (X:=fun y => y = C) (by rintro y rfl; exact ⟨oC, fC.elim get?_ge id, bC⟩) t (sameBut_keep hs₃))
  (R₂.poke (X:=fun y => y = C) (by rintro y rfl; exact nO) t (sameBut_keep hs₃)) trivial q
theorem ss_assign_lcomp {elt it:PySem.Expr} {x y:Str} {px py:Pos} {ifs:List PySem.Expr} {as:Int} {sc:Scope} {pos spos:Pos} (W:CfgOk c) (hIt:SI c Γ n it) (hE:SX c Γ n elt) (hI:∀ e ∈ ifs, ST c Γ n e) :
  SS c Γ n (.Assign [.Name y py] (.ListComp elt [⟨.Name x px, it, ifs, as⟩] sc pos) spos):=by
 intro env yy he A E s σ ρ Q Q' hA k R h P
 obtain ⟨hk, xe, e1, rfl⟩:=er_assign he
 have sw:swapsWith (.ListComp elt [⟨.Name x px, it, ifs, as⟩] sc pos) (some (.Name y py)) spos.line env = pure (env.blockKind == .function && env.kindOf y == some .local && py.line == pos.line && !(sc.names.any fun (n, k) => n == y && (k == .local || k == .cell))):=rfl
 cases hb:(env.blockKind == .function && env.kindOf y == some .local && py.line == pos.line && !(sc.names.any fun (n, k) => n == y && (k == .local || k == .cell))) with
 | false =>
  rw [hb] at sw
  exact wpAny_Assign_Name ((sx_lcomp W hIt hE hI).run e1 (.refl _) hA k R h fun v σ₁ a h₁ tk₁ g₁ ru q₁ => name_run (varK_of hk) k g₁ (R.go k g₁) ru q₁ P) sw
 | true =>
  rw [hb] at sw
  rw [exec_Assign_Name_used _ _ _ _ sw]
  refine wpAny_bind (wpAny_standAt (wpAny_bind ?_))
  show wpAny _ A (do let _ ← comprehension (.ListComp elt [⟨.Name x px, it, ifs, as⟩] sc pos) sc env _ (newList []) _ (eval it env) (some (assign (.Name y py) env))) _ _ s
  refine wpAny_bind (wpAny_mono (lcomp_gen (use:=some (assign (.Name y py) env)) (Q':=fun _ s' => Q' .next s') W hIt hE hI e1 (.refl _) hA k R
   (Q:=fun v σ₁ => Q .next (ρ.set y v) σ₁) h fun D C σ' h' tk m g q ns oC bC fC nO => use_run (varK_of hk) k R g q ns oC bC fC nO P) (fun _ s' hq => wpAny_pure (wpAny_pure hq)) fun _ _ e => e)
theorem ss_assign_dcomp {ek ev it:PySem.Expr} {x y:Str} {px py:Pos} {ifs:List PySem.Expr} {as:Int} {sc:Scope} {pos spos:Pos} (W:CfgOk c) (hIt:SI c Γ n it) (hK:SX c Γ n ek) (hV:SX c Γ n ev) (hI:∀ e ∈ ifs, ST c Γ n e) :
  SS c Γ n (.Assign [.Name y py] (.DictComp ek ev [⟨.Name x px, it, ifs, as⟩] sc pos) spos):=by
 intro env yy he A E s σ ρ Q Q' hA k R h P
 obtain ⟨hk, xe, e1, rfl⟩:=er_assign he
 have sw:swapsWith (.DictComp ek ev [⟨.Name x px, it, ifs, as⟩] sc pos) (some (.Name y py)) spos.line env = pure (env.blockKind == .function && env.kindOf y == some .local && py.line == pos.line && !(sc.names.any fun (n, k) => n == y && (k == .local || k == .cell))):=rfl
 cases hb:(env.blockKind == .function && env.kindOf y == some .local && py.line == pos.line && !(sc.names.any fun (n, k) => n == y && (k == .local || k == .cell))) with
 | false =>
  rw [hb] at sw
  exact wpAny_Assign_Name ((sx_dcomp W hIt hK hV hI).run e1 (.refl _) hA k R h fun v σ₁ a h₁ tk₁ g₁ ru q₁ => name_run (varK_of hk) k g₁ (R.go k g₁) ru q₁ P) sw
 | true =>
  rw [hb] at sw
  rw [exec_Assign_Name_used _ _ _ _ sw]
  refine wpAny_bind (wpAny_standAt (wpAny_bind ?_))
  show wpAny _ A (do let _ ← comprehension (.DictComp ek ev [⟨.Name x px, it, ifs, as⟩] sc pos) sc env _ newDict _ (eval it env) (some (assign (.Name y py) env))) _ _ s
  refine wpAny_bind (wpAny_mono (dcomp_gen (use:=some (assign (.Name y py) env)) (Q':=fun _ s' => Q' .next s') W hIt hK hV hI e1 (.refl _) hA k R
   (Q:=fun v σ₁ => Q .next (ρ.set y v) σ₁) h fun D C σ' h' tk m g q ns oC bC fC nO => use_run (varK_of hk) k R g q ns oC bC fC nO P) (fun _ s' hq => wpAny_pure (wpAny_pure hq)) fun _ _ e => e)
theorem names_cons {t:PySem.Expr} {r:List PySem.Expr} {xs:List Str} (h:namesOf (t :: r) = some xs):∃ x p xs', t = .Name x p ∧ namesOf r = some xs' ∧ xs = x :: xs':=by
 cases t with
 | Name x p =>
  obtain ⟨xs', z1, z2⟩:=Option.map_eq_some_iff.mp h
  exact ⟨x, p, xs', rfl, z1, z2.symm⟩
 | _ => exact nomatch h
theorem names_run {M:Model} {A:Around} {E} {Q:Fl → Loc → Store → Prop} {Q':Flow → Shared → Prop}:∀ {ts:List PySem.Expr} {xs:List Str} {vs:List V} {vals:List Value} {s:Shared} {σ:Store} {ρ ρ':Loc}, namesOf ts = some xs → xs.all (fun x => isVarK (env.kindOf x) && env.kindOf x != some .free) = true →
  Loc.setAll ρ xs vs = some ρ' → VRs s.heap vs vals → Ok c σ s.heap → EnvR c env ρ σ s.heap → Q .next ρ' σ → PostS c env s σ Q Q' → wpAny M A (assignInOrder ((assignEach ts env).map (·.2)) vals) (fun _ => Q' .next) E s:=by
 intro ts
 induction ts with
 | nil =>
  intro xs vs vals s σ ρ ρ' hn hk hs rv k R q P
  cases hn
  cases vs with
  | nil =>
   cases hs
   exact PyProof.Rows.assignInOrder_nil (P .next ρ σ .next s.heap s.toks (GoS.refl k) R trivial q)
  | cons a r => cases hs
 | cons t r ih =>
  intro xs vs vals s σ ρ ρ' hn hk hs rv k R q P
  obtain ⟨x, p, xs', rfl, z1, rfl⟩:=names_cons hn
  rw [List.all_cons, Bool.and_eq_true] at hk
  cases vs with
  | nil => cases hs
  | cons v vs =>
   obtain ⟨a, vals', rfl, r1, r2⟩:=rv.cons'
   show wpAny M A (assignInOrder (assign (.Name x p) env :: (assignEach r env).map (·.2)) (a :: vals')) _ E s
   refine PyProof.Rows.assignInOrder_cons (wpAny_assign_Name (store_name k R (varK_of hk.1) r1 fun h₁ tk₁ g₁ R₁ => ?_))
   exact ih z1 hk.2 hs (r2.keep g₁.tups) g₁.ok R₁ q (stepS (s:=s) g₁ P)
theorem each_names {ts:List PySem.Expr} {xs:List Str} (h:namesOf ts = some xs):(assignEach ts env).length = xs.length ∧ (assignEach ts env).findIdx? (·.1) = none:=by
 induction ts generalizing xs with
 | nil => cases h; exact ⟨rfl, rfl⟩
 | cons t r ih =>
  obtain ⟨x, p, xs', rfl, z1, rfl⟩:=names_cons h
  obtain ⟨h1, h2⟩:=ih z1
  have e:assignEach (.Name x p :: r) env = (false, assign (.Name x p) env) :: assignEach r env:=rfl
  rw [e]
  refine ⟨congrArg Nat.succ h1, ?_⟩
  rw [List.findIdx?_cons, h2]; rfl
theorem setAll_len:∀ {xs:List Str} {vs:List V} {ρ ρ':Loc}, Loc.setAll ρ xs vs = some ρ' → xs.length = vs.length
 | [], [], _, _, _ => rfl
 | [], _ :: _, _, _, h => nomatch h
 | _ :: _, [], _, _, h => nomatch h
 | _ :: _, _ :: _, _, _, h => congrArg Nat.succ (setAll_len h)
theorem ss_unpack {ts:List PySem.Expr} {k1:Nat} {tp pos:Pos} {e:PySem.Expr} (hS:SX c Γ n e):SS c Γ n (.Assign [.Tuple ts k1 tp] e pos):=by
 intro env y he A E s σ ρ Q Q' hA k R h P
 obtain ⟨xs, e1, hk, xe, e2, rfl⟩:=er_unpack he
 have hk:=Bool.and_eq_true_iff.mp hk
 have hnt:=hk.2
 have hk:=Bool.and_eq_true_iff.mp hk.1
 have hnc:=hk.2
 have hk:=hk.1
 have hs:swapsWithSole [.Tuple ts k1 tp] e pos.line env = pure false:=show swapsWith e (some (.Tuple ts k1 tp)) pos.line env = pure false from noSwap hnc _ _
 have hw:swappedStores [.Tuple ts k1 tp] e env = pure none:=by cases e <;> first | rfl | exact absurd hnt Bool.false_ne_true
 refine PyProof.Rows.Assign_Tuple (hS.run e2 (.refl _) hA k R h fun v σ₁ a h₁ tk₁ g₁ ru q₁ => ?_) hs hw
 have R₁:=R.go k g₁
 obtain ⟨f1, f2⟩:=each_names (env:=env) e1
 have fin:∀ {vs:List V} {us:List Value} {x:Addr}, VRs h₁ vs us → (∃ ρ', Loc.setAll ρ xs vs = some ρ' ∧ Q .next ρ' σ₁) → (a = .ref x) →
   (∀ {Q2:List Value → Shared → Prop}, (∀ h', Heap.ExtBut h₁.objs.size h₁ h' → Q2 us { s with heap:=h', toks:=tk₁ }) → wpAny (model c.prog c.w) A (unpackItems a us.length none) Q2 E { s with heap:=h₁, toks:=tk₁ }) →
   wpAny (model c.prog c.w) A (assign (.Tuple ts k1 tp) env a) (fun _ => Q' .next) E { s with heap:=h₁, toks:=tk₁ }:=by
  intro vs us x rv hq ha hun
  obtain ⟨ρ', s1, q⟩:=hq
  have len:us.length = (assignEach ts env).length:=by rw [f1, setAll_len s1, rv.length]
  rw [arm_assign_Tuple]
  refine wpAny_bind (wpAny_standAt ?_)
  unfold unpack
  rw [f2, ← len]
  refine wpAny_bind (wpAny_holding (hun fun h' he' => ?_))
  have kp:∀ b o, h₁.get? b = some o → h'.get? b = some o:=fun b o e => he' b o (fun z => by subst z; rw [get?_ge (Nat.le_refl _)] at e; cases e) e
  have g':=Go.grow' g₁.ok kp
  exact names_run (s:={ s with heap:=h', toks:=tk₁ }) e1 hk s1 (rv.keep (.all kp)) g'.ok (R₁.go g₁.ok g') q (stepS (s:=s) ((g₁.trans g').toS k) P)
 match v, ru, q₁ with
 | .tup xs, ru, q₁ =>
  obtain ⟨x, us, cnt, rfl, ht, hx⟩:=ru.shapeTup
  exact fin hx q₁ rfl fun {Q2} hq => wpAny_unpackItems_tuple (s:={ s with heap:=h₁, toks:=tk₁ }) hA.1 (isTuple_of ht) hq
 | .ref b, ru, q₁ =>
  cases ru
  obtain ⟨ys, e3, q₁⟩:=q₁
  obtain ⟨us, cnt, ht, hx⟩:=g₁.ok.obj _ _ e3
  exact fin hx q₁ rfl fun {Q2} hq => kun_itemsOf (s:={ s with heap:=h₁, toks:=tk₁ }) hA.1 (IsL.isList ht) hq
end
end Mini
end
section
namespace Mini
open PySem PySem.W PyProof.Rows
section
variable {c:Cfg} {Γ:GE} {n:Nat} {env:Env}
theorem own_facts {h:Heap} {σ:Store} {ρ:Loc} (R:EnvR c env ρ σ h) {b:Addr} (w:Own env b):σ b = none:=by
 rcases w with rfl | ⟨x, q⟩
 ·exact R.offL.1
 ·exact (R.offC x b q).1
noncomputable def FLoop (c:Cfg) (env:Env) (σf:Store) (h₀:Heap) (I:Addr) (St:Nat → Heap → Prop) (items:List V) (L:List V → Loc → Store → Prop) (s:Shared) (q:Nat) (s':Shared):Prop :=
 ∃ i ρ' σ' h' tk', s' = { s with heap:=h', toks:=tk' } ∧ q = items.length + 1 - i ∧ i ≤ items.length ∧ GoS c env σf h₀ σ' h' ∧ EnvR c env ρ' σ' h' ∧ St i h' ∧ σ' I = none ∧ L (items.drop i) ρ' σ'
section
variable {guard:Store → Prop} {St:Nat → Heap → Prop} {items:List V} {fp:List Addr} {I:Addr} {σf:Store} {h₀:Heap} {L:List V → Loc → Store → Prop} {s:Shared}
theorem FLoop.next {i:Nat} {ρ':Loc} {σ':Store} {h':Heap} {tk':Nat} (hi:i < items.length) (G:GoS c env σf h₀ σ' h') (R:EnvR c env ρ' σ' h') (st:St (i + 1) h') (oI:σ' I = none) (hL:L (items.drop (i + 1)) ρ' σ') :
  ∃ q, q < items.length + 1 - i ∧ FLoop c env σf h₀ I St items L s q { s with heap:=h', toks:=tk' } :=
 ⟨_, Nat.sub_lt_sub_left (Nat.lt_succ_of_lt hi) (Nat.lt_succ_self i), i + 1, ρ', σ', h', tk', rfl, rfl, hi, G, R, st, oI, hL⟩
theorem for_poke (itk:ItK c I fp items guard St) (fI:h₀.objs.size ≤ I) (nI:¬ Own env I) (bI:c.base.get? I = none) {i:Nat} {ρ:Loc} {σ:Store} {h h':Heap} (G:GoS c env σf h₀ σ h) (R:EnvR c env ρ σ h) (st:St i h) (oI:σ I = none) (x:∀ b o, b ≠ I → h.get? b = some o → h'.get? b = some o) :
  TupKeep h h' ∧ GoS c env σf h₀ σ h' ∧ EnvR c env ρ σ h':=by
 obtain ⟨oI', eI, tI⟩:=itk.has i h st
 have t:TupKeep h h':=poke_tups (fun o e => by rw [eI] at e; cases e; exact tI) x
 exact ⟨t, G.poke (X:=fun y => y = I) (by rintro y rfl; exact ⟨oI, get?_ge fI, bI⟩) t x, R.poke (X:=fun y => y = I) (by rintro y rfl; exact nI) t x⟩
theorem for_stay (itk:ItK c I fp items guard St) (nI:¬ Own env I) (fpk:∀ b ∈ fp, Mut σf b = false ∧ (σf b).isSome = true ∧ ∃ o, h₀.get? b = some o) (nfp:∀ b ∈ fp, ¬ Own env b) {h h':Heap} {σa σb:Store} {j:Nat} (ga:GoS c env σf h₀ σa h) (gb:GoS c env σa h σb h') (sj:St j h) (oa:σa I = none):St j h' ∧ σb I = none:=by
 obtain ⟨_, eI, _⟩:=itk.has j h sj
 exact ⟨itk.loc j h h' sj (fun o e => gb.keep _ o e (Mut.none oa) nI) (fun b hb o e => let ⟨q1, _, _, q3⟩:=fpk b hb; gb.keep b o e (ga.off q3 q1) (nfp b hb)) gb.tups, gb.out _ _ eI oa⟩
theorem for_turn {x:Str} {px:Pos} {body:List PySem.Stmt} {yb:List S} {A:Around} {P:Option Value → Shared → Prop} {E E2:Value → Shared → Prop} {F BF:Flow → Shared → Prop} {K:Fl → Loc → Store → Prop} {q:Nat} {s':Shared}
  (hx:env.kindOf x = some .local ∨ env.kindOf x = some .cell) (hA:AOk A n) (hB:SB c Γ n body) (e2:erSs body env.kindOf = some yb) (itk:ItK c I fp items guard St) (fI:h₀.objs.size ≤ I) (nI:¬ Own env I) (bI:c.base.get? I = none)
  (fpk:∀ b ∈ fp, Mut σf b = false ∧ (σf b).isSome = true ∧ ∃ o, h₀.get? b = some o) (nfp:∀ b ∈ fp, ¬ Own env b)
  (post:∀ {ρ₂:Loc} {σ₂:Store} {h₂:Heap} {tk₂:Nat} {f:Fl} {fl:Flow}, GoS c env σf h₀ σ₂ h₂ → EnvR c env ρ₂ σ₂ h₂ → FlR h₂ f fl → guard σ₂ → K f ρ₂ σ₂ → F fl { s with heap:=h₂, toks:=tk₂ })
  (p0:∀ {s₁}, F .next s₁ → P none s₁)
  (p1:∀ {v s₁}, wpAny (model c.prog c.w) A (assign (.Name x px) env v) (fun _ s₂ => wpAny (model c.prog c.w) A (execs body env) BF E2 s₂) E2 s₁ → P (some v) s₁)
  (b0:∀ {s₃}, (∃ m, m < q ∧ FLoop c env σf h₀ I St items (fun l ρ σ => forLoop guard (fun ρ' σ' Q' => wSs Γ yb ρ' σ' Q') x l ρ σ K) s m s₃) → BF .next s₃)
  (b1:∀ {s₃}, (∃ m, m < q ∧ FLoop c env σf h₀ I St items (fun l ρ σ => forLoop guard (fun ρ' σ' Q' => wSs Γ yb ρ' σ' Q') x l ρ σ K) s m s₃) → BF .cont s₃)
  (b2:∀ {v s₃}, F (.ret v) s₃ → BF (.ret v) s₃)
  (H:FLoop c env σf h₀ I St items (fun l ρ σ => forLoop guard (fun ρ' σ' Q' => wSs Γ yb ρ' σ' Q') x l ρ σ K) s q s'):wpAny (model c.prog c.w) A (pyNext (.ref I)) P E s':=by
 obtain ⟨i, ρ', σ', h', tk', rfl, rfl, hi, G, R', st, oI, hL⟩:=H
 cases hd:items.drop i with
 | nil =>
  rw [hd] at hL
  refine itk.done A _ σ' _ _ hA.1 G.ok hL.1 (drop_end hd hi ▸ st) fun h'' tk'' xx => p0 ?_
  obtain ⟨t, G', R''⟩:=for_poke itk fI nI bI G R' st oI xx
  exact post G' R'' (show FlR h'' .next .next from trivial) hL.1 hL.2
 | cons v vs =>
  obtain ⟨hlt, hy, rfl⟩:=drop_step hd
  rw [hd] at hL
  refine itk.item i A _ σ' v _ _ hA.1 G.ok hL.1 st hy fun val₂ h₂ tk₂ hv st₂ xx => p1 ?_
  obtain ⟨t, G₂, R₂⟩:=for_poke itk fI nI bI G R' st oI xx
  refine wpAny_assign_Name (store_name (s:={ s with heap:=h₂, toks:=tk₂ }) (v:=v) G₂.ok R₂ hx (hv.keep t) fun h₃ tk₃ g₃ R₃ => ?_)
  refine hB env yb e2 A _ { s with heap:=h₃, toks:=tk₃ } σ' (ρ'.set x v) _ _ hA g₃.ok R₃ hL.2 fun f ρ₄ σ₄ fl h₄ tk₄ g₄ R₄ fr q₄ => ?_
  obtain ⟨st₃, oI₃⟩:=for_stay itk nI fpk nfp G₂ g₃ st₂ oI
  obtain ⟨st₄, oI₄⟩:=for_stay itk nI fpk nfp (G₂.trans g₃) g₄ st₃ oI₃
  have G₄:=(G₂.trans g₃).trans g₄
  cases f with
  | next => cases fl <;> first | exact fr.elim | exact b0 (FLoop.next hlt G₄ R₄ st₄ oI₄ q₄)
  | cont => cases fl <;> first | exact fr.elim | exact b1 (FLoop.next hlt G₄ R₄ st₄ oI₄ q₄)
  | ret r =>
   cases fl <;> first | exact fr.elim | exact b2 (post G₄ R₄ (show FlR h₄ (.ret r) (.ret _) from fr) q₄.1 q₄.2)
end
theorem ss_for {x:Str} {px pos:Pos} {it:PySem.Expr} {body:List PySem.Stmt} (W:CfgOk c) (hIt:SI c Γ n it) (hB:SB c Γ n body):SS c Γ n (.For (.Name x px) it body [] pos):=by
 intro env y he A E s σ ρ Q Q' hA k R h P
 obtain ⟨hk, xit, e1, yb, e2, rfl⟩:=er_for he
 have hx:=varK_of hk
 refine wpAny_For (hIt.run e1 (.refl _) hA k R h fun σ₁ val h₁ tk₁ g₁ iv => ?_) (folded_of e1)
 refine r_pyIter W (s:={ s with heap:=h₁, toks:=tk₁ }) g₁.ok iv fun items guard σf unf o fp St z no itk st0 fpk hq => ?_
 have R₁:=R.go k g₁
 have k0:=z.ok g₁.ok
 have R0:=z.envR R₁
 have fI:h₁.objs.size ≤ h₁.objs.size:=Nat.le_refl _
 have nOI:¬ Own env h₁.objs.size:=R0.notOwn fI
 have bI:=(k0.fresh fI).1
 have nfp:∀ b ∈ fp, ¬ Own env b:=fun b hb w => by
  have:=(fpk b hb).2.1
  rw [own_facts R0 w] at this; cases this
 have kp:∀ b o', h₁.get? b = some o' → (h₁.push o).get? b = some o':=fun b o' e => Heap.get?_push_of_some _ e
 have gI:GoS c env σf h₁ σf (h₁.push o):=(Go.grow' k0 kp).toS k0
 have post:∀ {ρ₂:Loc} {σ₂:Store} {h₂:Heap} {tk₂:Nat} {f:Fl} {fl:Flow}, GoS c env σf h₁ σ₂ h₂ → EnvR c env ρ₂ σ₂ h₂ → FlR h₂ f fl → guard σ₂ → Q f ρ₂ (unf σ₂) → Q' fl { s with heap:=h₂, toks:=tk₂ }:=by
  intro ρ₂ σ₂ h₂ tk₂ f fl g₂ r₂ fr gd q
  have gz:=z.goS g₁.ok g₂ gd
  have rz:EnvR c env ρ₂ (unf σ₂) h₂:=⟨r₂.fn, r₂.glb, r₂.blt, r₂.loc, r₂.cell, ⟨z.noneBack R₁.offL.1 r₂.offL.1, r₂.offL.2⟩, fun x a q => let ⟨q1, q2⟩:=r₂.offC x a q; ⟨z.noneBack (R₁.offC x a q).1 q1, q2⟩, r₂.apart⟩
  exact P f ρ₂ _ fl h₂ tk₂ ((g₁.toS k).trans gz) rz fr q
 exact codeAny_forLoop (FLoop c env σf h₁ h₁.objs.size St items (fun l ρ σ => forLoop guard (fun ρ' σ' Q' => wSs Γ yb ρ' σ' Q') x l ρ σ (fun f ρ' σ' => Q f ρ' (unf σ'))) s)
  (fun q s' H => for_turn (F:=Q') hx hA hB e2 itk fI nOI bI fpk nfp post (fun h => wpAny_execs_nil h) (fun h => h) (fun h => h) (fun h => h) (fun h => h) H) (items.length + 1)
  ⟨0, ρ, σf, h₁.push o, tk₁, rfl, rfl, Nat.zero_le _, gI, R0.go k0 (Go.grow' k0 kp), st0 _ kp (Heap.get?_push_size _ no), k0.free fI, hq⟩
end
end Mini
end
section
namespace Mini
open PySem PySem.W PyProof.Rows
section
variable {c:Cfg} {Γ:GE} {n:Nat}
theorem SS.bad {st:PySem.Stmt} (h:∀ kd, erS st kd = none):SS c Γ n st:=fun env y he => nomatch (h _).symm.trans he
theorem all_e (W:CfgOk c) (G:GOk c n Γ) (e:PySem.Expr):T3 c Γ n e:=all_of W G (sizeOf e + 1) e (Nat.lt_succ_self _)
theorem ss_assignName (W:CfgOk c) (G:GOk c n Γ) {x:Str} {p pos:Pos} {e:PySem.Expr}:SS c Γ n (.Assign [.Name x p] e pos):=by
 by_cases hn:notComp e = true
 ·exact ss_assign (all_e W G e).1 hn
 ·have none_of:(∀ kd, er e kd = none) → SS c Γ n (.Assign [.Name x p] e pos):=fun h => .bad fun kd => by
   show (if (isVarK (kd x) && kd x != some .free) = true then (er e kd).bind fun v => some (S.assign x v) else none) = none
   rw [h kd]
   cases isVarK (kd x) && kd x != some .free <;> rfl
  cases e with
  | ListComp elt gens sc cpos =>
   rcases one_clause gens with ⟨x', px, it, ifs, as, rfl⟩ | q
   ·exact ss_assign_lcomp W (all_e W G it).2.2 (all_e W G elt).1 fun e _ => (all_e W G e).2.1
   ·exact none_of fun kd => er_lc_bad (q _ _)
  | DictComp ek ev gens sc cpos =>
   rcases one_clause gens with ⟨x', px, it, ifs, as, rfl⟩ | q
   ·exact ss_assign_dcomp W (all_e W G it).2.2 (all_e W G ek).1 (all_e W G ev).1 fun e _ => (all_e W G e).2.1
   ·exact none_of fun kd => er_dc_bad (q _ _)
  | SetComp => exact none_of fun kd => rfl
  | _ => exact absurd rfl hn
theorem z_if1' {t:PySem.Expr} {a b:List PySem.Stmt} {p:Pos}:sizeOf a < sizeOf (PySem.Stmt.If t a b p):=sze [sizeOf t, sizeOf a, sizeOf b, sizeOf p] (PySem.Stmt.If.sizeOf_spec ..) (.tail _ (.head _))
theorem z_if2' {t:PySem.Expr} {a b:List PySem.Stmt} {p:Pos}:sizeOf b < sizeOf (PySem.Stmt.If t a b p):=sze [sizeOf t, sizeOf a, sizeOf b, sizeOf p] (PySem.Stmt.If.sizeOf_spec ..) (.tail _ (.tail _ (.head _)))
theorem z_for' {t i:PySem.Expr} {a b:List PySem.Stmt} {p:Pos}:sizeOf a < sizeOf (PySem.Stmt.For t i a b p):=sze [sizeOf t, sizeOf i, sizeOf a, sizeOf b, sizeOf p] (PySem.Stmt.For.sizeOf_spec ..) (.tail _ (.tail _ (.head _)))
theorem z_st1 {s:PySem.Stmt} {r:List PySem.Stmt}:sizeOf s < sizeOf (s :: r):=sze [sizeOf s, sizeOf r] (List.cons.sizeOf_spec ..) (.head _)
theorem z_st2 {s:PySem.Stmt} {r:List PySem.Stmt}:sizeOf r < sizeOf (s :: r):=sze [sizeOf s, sizeOf r] (List.cons.sizeOf_spec ..) (.tail _ (.head _))
theorem all_st (W:CfgOk c) (G:GOk c n Γ):∀ (N:Nat), (∀ st:PySem.Stmt, sizeOf st < N → SS c Γ n st) ∧ ∀ sts:List PySem.Stmt, sizeOf sts < N → SB c Γ n sts:=by
 intro N
 induction N with
 | zero => exact ⟨fun _ h => absurd h (Nat.not_lt_zero _), fun _ h => absurd h (Nat.not_lt_zero _)⟩
 | succ N ih =>
  obtain ⟨ihS, ihB⟩:=ih
  refine ⟨fun st hN => ?_, fun sts hN => ?_⟩
  ·cases st with
   | Return v pos =>
    cases v with
    | none => exact .bad fun kd => rfl
    | some e => exact ss_ret (all_e W G e).1
   | Expr e pos => exact ss_expr (all_e W G e).1
   | Continue pos => exact ss_cont
   | If t a b pos => exact ss_if (all_e W G t).2.1 (ihB a (dn hN z_if1')) (ihB b (dn hN z_if2'))
   | For t it body orelse pos =>
    cases t with
    | Name x px =>
     cases orelse with
     | nil => exact ss_for W (all_e W G it).2.2 (ihB body (dn hN z_for'))
     | cons _ _ => exact .bad fun kd => rfl
    | _ => exact .bad fun kd => rfl
   | AugAssign t op v pos =>
    cases t with
    | Attribute o a p => exact ss_augAttr W (all_e W G o).1 (all_e W G v).1
    | _ => exact .bad fun kd => rfl
   | Assign ts v pos =>
    cases ts with
    | nil => exact .bad fun kd => rfl
    | cons t r =>
     cases r with
     | cons _ _ => exact .bad fun kd => rfl
     | nil =>
      cases t with
      | Name x p => exact ss_assignName W G
      | Subscript o i p => exact ss_setSub W (all_e W G o).1 (all_e W G i).1 (all_e W G v).1
      | Attribute o a p => exact ss_setAttr W (all_e W G o).1 (all_e W G v).1
      | Tuple ts k p => exact ss_unpack (all_e W G v).1
      | _ => exact .bad fun kd => rfl
   | _ => exact .bad fun kd => rfl
  ·cases sts with
   | nil => exact sb_nil
   | cons st r => exact sb_cons (ihS st (dn hN z_st1)) (ihB r (dn hN z_st2))
theorem all_b (W:CfgOk c) (G:GOk c n Γ) (sts:List PySem.Stmt):SB c Γ n sts:=(all_st W G (sizeOf sts + 1)).2 sts (Nat.lt_succ_self _)
end
end Mini
end
section
namespace Mini
open PySem PySem.W PyProof.Rows
section
variable {c:Cfg} {Γ:GE} {n:Nat} {env:Env}
theorem GoS.toGo {h h₁ h':Heap} {σ σ':Store} {ρ:Loc} (k:Ok c σ h) (x:∀ b o, h.get? b = some o → h₁.get? b = some o) (own:∀ b, Own env b → h.objs.size ≤ b) (R:EnvR c env ρ σ h₁) (g:GoS c env σ h₁ σ' h'):Go c σ h σ' h':=by
 have no:∀ {b o}, h.get? b = some o → ¬ Own env b:=fun e w => by have:=own _ w; rw [get?_ge this] at e; cases e
 refine ⟨fun b o e m => g.keep b o (x b o e) m (no e), fun b m => ?_, fun b o e m => g.out b o (x b o e) m, fun b o e => ?_, g.ok⟩
 ·rcases g.dom b m with q | q
  ·exact .inl q
  ·cases e:h.get? b with
   | none => exact .inr rfl
   | some o => rw [x b o e] at q; cases q
 ·exact g.stay b o (x b o e)
noncomputable def fnOk (ps:List Str) (sc:Scope):Bool :=
 sc.kind == .function && !sc.isCoroutine && !sc.isGenerator && sc.names.all (fun p => p.2 == .local || p.2 == .cell || p.2 == .globalImplicit) && decide ((sc.names.map (·.1)).Nodup) &&
 ps.all (fun x => sc.names.lookup x == some .local || sc.names.lookup x == some .cell)
theorem cells_some:∀ {names:List (Str × NameKind)} {m:Nat} {acc:List (Str × Addr)} {x:Str}, ((acc.lookup x).isSome = true ∨ (x, NameKind.cell) ∈ names) → ((cellsFrom m names acc).lookup x).isSome = true
 | [], _, _, _, h => by rcases h with h | h; exact h; cases h
 | (y, k) :: r, m, acc, x, h => by
  unfold cellsFrom
  split
  ·refine cells_some ?_
   rcases h with h | h
   ·left; rw [List.lookup_cons]; split <;> first | rfl | exact h
   ·rcases List.mem_cons.mp h with q | q
    ·cases q; left; rw [List.lookup_cons, beq_self_eq_true]; rfl
    ·exact .inr q
  ·rename_i hk
   refine cells_some ?_
   rcases h with h | h
   ·exact .inl h
   ·rcases List.mem_cons.mp h with q | q
    ·cases q; exact absurd rfl hk
    ·exact .inr q
theorem lookup_memA {cs:List (Str × Addr)}:∀ {y:Str} {k:Addr}, cs.lookup y = some k → (y, k) ∈ cs:=by
 induction cs with
 | nil => intro y k h; cases h
 | cons p r ih =>
  intro y k h
  obtain ⟨a, b⟩:=p
  rw [List.lookup_cons] at h
  cases q:y == a with
  | true => rw [q] at h; cases h; rw [eq_of_beq q]; exact List.mem_cons_self
  | false => rw [q] at h; exact List.mem_cons_of_mem _ (ih h)
theorem apart_eq:∀ {cs:List (Str × Addr)} {x y:Str} {a:Addr}, cs.Pairwise (fun x y => x.2 ≠ y.2) → cs.lookup x = some a → cs.lookup y = some a → y = x
 | [], _, _, _, _, h, _ => by cases h
 | (z, b) :: r, x, y, a, hp, h1, h2 => by
  rw [List.pairwise_cons] at hp
  rw [List.lookup_cons] at h1 h2
  cases q1:x == z <;> rw [q1] at h1 <;> cases q2:y == z <;> rw [q2] at h2 <;> dsimp only at h1 h2
  ·exact apart_eq hp.2 h1 h2
  ·cases h2; exact absurd rfl (hp.1 (x, b) (lookup_memA h1))
  ·cases h1; exact absurd rfl (hp.1 (y, b) (lookup_memA h2))
  ·rw [eq_of_beq q1, eq_of_beq q2]
theorem bind_run {h:Heap} (kf:Str → Option NameKind):∀ {xs:List Str} {us:List V} {vals:List Value} {ρ ρ':Loc} {m cm:Str → Option Value}, Loc.setAll ρ xs us = some ρ' → VRs h us vals →
  (∀ x v, ρ.get x = some v → kf x = some .local → ∃ val, m x = some val ∧ VR h v val) → (∀ x v, ρ.get x = some v → kf x ≠ some .local → ∃ val, cm x = some val ∧ VR h v val) →
  (∀ x v, ρ'.get x = some v → kf x = some .local → ∃ val, bindL kf (xs.zip vals) m x = some val ∧ VR h v val) ∧ (∀ x v, ρ'.get x = some v → kf x ≠ some .local → ∃ val, bindC kf (xs.zip vals) cm x = some val ∧ VR h v val):=by
 intro xs
 induction xs with
 | nil =>
  intro us vals ρ ρ' m cm e rv h1 h2
  cases us with
  | nil => cases Option.some.inj (show some ρ = some ρ' from e); exact ⟨h1, h2⟩
  | cons _ _ => exact nomatch (show none = some ρ' from e)
 | cons x xs ih =>
  intro us vals ρ ρ' m cm e rv h1 h2
  cases us with
  | nil => exact nomatch (show none = some ρ' from e)
  | cons u us =>
   have e:Loc.setAll (ρ.set x u) xs us = some ρ':=e
   obtain ⟨val, vals', rfl, r1, r2⟩:=rv.cons'
   simp only [List.zip_cons_cons, bindL, bindC]
   refine ih e r2 (fun y v hy hk => ?_) (fun y v hy hk => ?_)
   ·rw [Loc.get_set] at hy
    by_cases q:y = x
    ·subst q; rw [if_pos rfl] at hy; cases hy; rw [if_pos hk]; exact ⟨val, by rw [if_pos rfl], r1⟩
    ·rw [if_neg q] at hy
     obtain ⟨w, z1, z2⟩:=h1 y v hy hk
     split
     ·exact ⟨w, by dsimp only; rw [if_neg q]; exact z1, z2⟩
     ·exact ⟨w, z1, z2⟩
   ·rw [Loc.get_set] at hy
    by_cases q:y = x
    ·subst q; rw [if_pos rfl] at hy; cases hy; rw [if_neg hk]; exact ⟨val, by rw [if_pos rfl], r1⟩
    ·rw [if_neg q] at hy
     obtain ⟨w, z1, z2⟩:=h2 y v hy hk
     split
     ·exact ⟨w, z1, z2⟩
     ·exact ⟨w, by dsimp only; rw [if_neg q]; exact z1, z2⟩
theorem zip_mem_left:∀ {xs:List Str} {vals:List Value} {p:Str × Value}, p ∈ xs.zip vals → p.1 ∈ xs:=fun h => (List.of_mem_zip h).1
theorem fn_run {fd:FuncData} {a:Addr} {oc:Value} {od:Option Addr} {osl:Array (Option Value)} {body:List PySem.Stmt} {ps:List Str} {ys:List S} {A:Around} {s:Shared} {σ:Store} {us:List V} {vals uvals:List Value} {Q:V → Store → Prop} {R:Result → Shared → Prop}
  (W:CfgOk c) (G:GOk c n Γ) (ho:c.K.lookup a = some ⟨oc, od, .func fd, osl⟩) (hg:fd.globals = mainGlobals) (hb:fd.builtins = builtinsNs) (hcl:fd.closure = []) (hbd:fd.body = .stmts body) (hcd:codeIn c.K fd.code fd.qualname = true)
  (ok:fnOk ps fd.scope = true) (he:erSs body (scKinds fd.scope) = some ys) (hA:AOk A (n + 1)) (k:Ok c σ s.heap) (hbind:BindsTo s fd ⟨vals, []⟩ (ps.zip uvals)) (rv:VRs s.heap us uvals) (h:wBody Γ ps ys us σ Q)
  (P:∀ v σ' val h' tk', Go c σ s.heap σ' h' → VR h' v val → Q v σ' → R (.ok (.ret val)) { s with heap:=h', toks:=tk' }):codeAny (model c.prog c.w) A (.call (.ref a) ⟨vals, []⟩) R s:=by
 unfold fnOk at ok
 simp only [Bool.and_eq_true, beq_iff_eq, Bool.not_eq_true', List.all_eq_true, Bool.or_eq_true, decide_eq_true_eq] at ok
 obtain ⟨⟨⟨⟨⟨o1, o2⟩, o3⟩, o4⟩, o5⟩, o6⟩:=ok
 have X:=k.kin W
 obtain ⟨ρ, hs, hw⟩:=h
 refine codeAny_call_function hA.room (X _ _ ho) rfl o2 o3 hbd (codeRec_of X hcd) (hbind _ _ _ _ ?_)
 rw [hcl, hg, hb]
 have o1':fd.scope.kind = .function:=by simpa using o1
 have lk:∀ x ∈ ps, fd.scope.names.lookup x = some .local ∨ fd.scope.names.lookup x = some .cell:=fun x hx => by
  rcases o6 x hx with q | q
  ·exact .inl (by simpa using q)
  ·exact .inr (by simpa using q)
 refine wpAny_newFunctionEnv_cells o1' (fun p hp => ?_) fun env' hev s' x => ?_
 ·rcases lk p.1 (zip_mem_left hp) with q | q
  ·exact .inl q
  ·exact .inr ⟨q, cells_some (.inr (lookup_mem q))⟩
 ·subst hev
  obtain ⟨h₁, tk, rfl, kp⟩:=x.done
  refine ⟨(W.lim.keeps k.base).keeps kp, codeAny_func ?_⟩
  have g0:Go c σ s.heap σ h₁:=Go.grow' k kp
  have rv':=rv.keep (.all kp)
  obtain ⟨b1, b2⟩:=bind_run (h:=h₁) (newEnv fd.scope s.heap.objs.size mainGlobals (cellsFrom (s.heap.objs.size + 1) fd.scope.names []) (fd.qualname ++ ".<locals>.") (some a) fd.code none builtinsNs).kindOf (m:=fun _ => none) (cm:=fun _ => none) hs rv' (fun x v e => by cases e) (fun x v e => by cases e)
  have fresh:∀ b, s.heap.objs.size ≤ b → σ b = none ∧ c.base.get? b = none:=fun b q => ⟨k.free q, (k.fresh q).1⟩
  have above:∀ y b, List.lookup y (cellsFrom (s.heap.objs.size + 1) fd.scope.names []) = some b → s.heap.objs.size < b:=fun y b q => by
   exact x.above y b (lookup_memA q)
  have RE:EnvR c (newEnv fd.scope s.heap.objs.size mainGlobals (cellsFrom (s.heap.objs.size + 1) fd.scope.names []) (fd.qualname ++ ".<locals>.") (some a) fd.code none builtinsNs) ρ σ h₁:=by
   refine ⟨o1', rfl, rfl, ⟨_, x.toInCall.ns, fun y v hy hk _ => b1 y v hy hk⟩, fun y hk => ?_, fresh _ (Nat.le_refl _), fun y b q => ?_, fun y z b _ q1 q2 => apart_eq x.apart q1 q2⟩
   ·have hc:fd.scope.names.lookup y = some .cell:=by
     rcases hk with q | q
     ·exact q
     ·exfalso
      have:=o4 _ (lookup_mem (show fd.scope.names.lookup y = some .free from q))
      simp at this
    obtain ⟨b, hb'⟩:=Option.isSome_iff_exists.mp (cells_some (m:=s.heap.objs.size + 1) (acc:=[]) (.inr (lookup_mem hc)))
    refine ⟨b, _, hb', x.cell y b hb', fun v hv => ?_⟩
    exact b2 y v hv (fun z => by rw [show fd.scope.names.lookup y = _ from z] at hc; cases hc)
   ·have lt:=above y b q
    obtain ⟨f1, f2⟩:=fresh b (Nat.le_of_lt lt)
    exact ⟨f1, f2, Nat.ne_of_gt lt, _, x.cell y b q⟩
  refine all_b W G body (newEnv fd.scope s.heap.objs.size mainGlobals (cellsFrom (s.heap.objs.size + 1) fd.scope.names []) (fd.qualname ++ ".<locals>.") (some a) fd.code none builtinsNs) ys he _ _ { s with heap:=h₁, toks:=tk } σ ρ _ _ hA.deeper g0.ok RE hw fun f ρ' σ' fl h' tk' g' R' fr q => ?_
  have gg:=GoS.toGo k kp (fun b w => by
   rcases w with rfl | ⟨y, q⟩
   ·exact Nat.le_refl _
   ·exact Nat.le_of_lt (above y b q)) RE g'
  cases f with
  | next => cases fl <;> first | exact fr.elim | exact P .none σ' .none h' tk' gg rfl q
  | cont => exact q.elim
  | ret v => cases fl <;> first | exact fr.elim | exact P v σ' _ h' tk' gg fr q
end
end Mini
end
section
namespace Mini
open PySem PySem.W PyProof.Rows
noncomputable def newSpec (init:Spec):Spec:=fun vs σ Q => vs = [] ∧ ∀ b dx, σ b = none → σ dx = none → b ≠ dx → init [.ref b] ((σ.set dx (.attrs [])).set b (.inst dx)) fun v σ' => v = .none ∧ Q (.ref b) σ'
section
variable {c:Cfg} {n:Nat}
theorem new_run {fI:Addr} {init:Spec} (W:CfgOk c) (hm:makesIn c.K c.C = true) (hi:findIn c.K (.ref c.C) "__init__" = some (some (.ref fI))) (hf:typeIn c.K (.ref fI) = some (.type "function")) (S:Sound c n (.ref fI) init):Sound c (n + 1) (.ref c.C) (newSpec init):=by
 intro A s σ vs vals Q R hA k rv h P
 obtain ⟨rfl, h⟩:=h
 rw [rv.nil']
 have X:=k.kin W
 obtain ⟨hh, g, d, t, os⟩:=s
 refine make_core (makes_of X hm) (looks_findIn X hi) (fun self => bind_fn X self hf) (.inl rfl) ?_
 have A':AOk (A.under (.builtin "type.__call__" ⟨[.ref c.C], []⟩)) n:=⟨hA.1, by rw [depth_under_make A c.C []]; have:=hA.2.1; omega, by rw [units_under_make A c.C []]; have:=hA.2.2; omega⟩
 have k1:∀ b o, hh.get? b = some o → (hh.push emptyDict).get? b = some o:=fun b o e => Heap.get?_push_of_some _ e
 have k2:∀ b o, (hh.push emptyDict).get? b = some o → ((hh.push emptyDict).push (instObj c.C hh.objs.size)).get? b = some o:=fun b o e => Heap.get?_push_of_some _ e
 have s1:(hh.push emptyDict).objs.size = hh.objs.size + 1:=Heap.size_push ..
 have g1:Go c σ hh (σ.set hh.objs.size (.attrs [])) (hh.push emptyDict):=Go.alloc' k k1 (Nat.le_refl _) ⟨[], 0, Heap.get?_push_size _ rfl, .nil⟩
 have g2:Go c (σ.set hh.objs.size (.attrs [])) (hh.push emptyDict) ((σ.set hh.objs.size (.attrs [])).set (hh.objs.size + 1) (.inst hh.objs.size)) ((hh.push emptyDict).push (instObj c.C hh.objs.size)) :=
  Go.alloc' g1.ok k2 (Nat.le_of_eq s1) (by show Heap.get? _ _ = some (instObj c.C hh.objs.size); rw [← s1]; exact Heap.get?_push_size _ rfl)
 have gg:=g1.trans g2
 refine S _ ⟨(hh.push emptyDict).push (instObj c.C hh.objs.size), g, d, t, os⟩ _ [.ref (hh.objs.size + 1)] _ _ _ A' gg.ok ⟨_, _, rfl, rfl, rfl⟩
  (h (hh.objs.size + 1) hh.objs.size (k.free (Nat.le_succ _)) (k.free (Nat.le_refl _)) (Nat.succ_ne_self _)) fun v σ' val h' tk' g' r q => ?_
 obtain ⟨rfl, q⟩:=q
 exact ⟨r, P (.ref _) σ' _ h' tk' (gg.trans g') rfl q⟩
end
end Mini
end
section
namespace Mini
open PySem PySem.W PyProof.Rows
structure FnAt (K:Frag) (a:Addr) (ps:List Str) (ys:List S):Prop where
 at_:∃ (oc:Value) (od:Option Addr) (fd:FuncData) (osl:Array (Option Value)) (body:List PySem.Stmt), K.lookup a = some ⟨oc, od, .func fd, osl⟩ ∧ fd.globals = mainGlobals ∧ fd.builtins = builtinsNs ∧ fd.closure = [] ∧ fd.body = .stmts body ∧
  codeIn K fd.code fd.qualname = true ∧ fnOk ps fd.scope = true ∧ erSs body (scKinds fd.scope) = some ys ∧ ∀ (s:Shared), K.In s.heap → ∀ vals:List Value, vals.length = ps.length → BindsTo s fd ⟨vals, []⟩ (ps.zip vals)
 keep:keepIn K (.ref a) = true
section
variable {c:Cfg} {Γ:GE} {n m:Nat}
theorem Sound.weaken {f:Value} {sp sp':Spec} (S:Sound c n f sp) (h:∀ vs σ Q, sp' vs σ Q → sp vs σ Q):Sound c n f sp':=fun A s σ vs vals Q R hA k rv q P => S A s σ vs vals Q R hA k rv (h _ _ _ q) P
theorem Sound.up {f:Value} {sp:Spec} (S:Sound c n f sp) (l:n ≤ m):Sound c m f sp:=fun A s σ vs vals Q R hA k rv q P => S A s σ vs vals Q R (hA.mono l) k rv q P
theorem sound_of {a:Addr} {ps:List Str} {ys:List S} (W:CfgOk c) (G:GOk c n Γ) (f:FnAt c.K a ps ys):Sound c (n + 1) (.ref a) (wBody Γ ps ys):=by
 intro A s σ vs vals Q R hA k rv h P
 obtain ⟨oc, od, fd, osl, body, h1, h2, h3, h4, h5, h6, h7, h8, h9⟩:=f.at_
 have len:vals.length = ps.length:=by
  obtain ⟨ρ, e, _⟩:=h
  rw [setAll_len e, rv.length]
 exact fn_run W G h1 h2 h3 h4 h5 h6 h7 h8 hA k (h9 s (k.kin W) vals len) rv h P
end
end Mini
end
section
namespace Mini
open PySem
noncomputable def b_to_signed:List S:=[.ret (.bin .Sub (.var "x") (.bin .Mult (.lit (.int (2))) (.bin .BitAnd (.var "x") (.glob "SIGN"))))]
noncomputable def b_flagged:List S:=[.ret (.tup [(.var "result"), (.bin .RShift (.var "result") (.lit (.int (31)))), (.ite (.cmp .Eq (.var "result") (.lit (.int (0)))) (.lit (.int (1))) (.lit (.int (0)))), (.var "c"), (.var "v"), (.var "h")])]
noncomputable def b_add:List S:=[.assign "total" (.bin .Add (.var "x") (.var "y")), .assign "result" (.bin .BitAnd (.var "total") (.glob "MASK")), .assign "c" (.bin .RShift (.var "total") (.lit (.int (32)))), .assign "v" (.bin .RShift (.bin .BitAnd (.bin .BitXor (.var "x") (.var "result")) (.bin .BitXor (.var "y") (.var "result"))) (.lit (.int (31)))), .ret (.call "flagged" [(.var "result"), (.var "c"), (.var "v")])]
noncomputable def b_sub:List S:=[.assign "result" (.bin .BitAnd (.bin .Sub (.var "x") (.var "y")) (.glob "MASK")), .assign "c" (.ite (.cmp .Lt (.var "x") (.var "y")) (.lit (.int (1))) (.lit (.int (0)))), .assign "v" (.bin .RShift (.bin .BitAnd (.bin .BitXor (.var "x") (.var "y")) (.bin .BitXor (.var "x") (.var "result"))) (.lit (.int (31)))), .ret (.call "flagged" [(.var "result"), (.var "c"), (.var "v")])]
noncomputable def b_mul:List S:=[.assign "product" (.bin .Mult (.call "to_signed" [(.var "x")]) (.call "to_signed" [(.var "y")])), .assign "result" (.bin .BitAnd (.var "product") (.glob "MASK")), .assign "v" (.ite (.cmp .Eq (.call "to_signed" [(.var "result")]) (.var "product")) (.lit (.int (0))) (.lit (.int (1)))), .ret (.call "flagged" [(.var "result"), (.lit (.int (0))), (.var "v"), (.bin .BitAnd (.bin .RShift (.var "product") (.lit (.int (32)))) (.glob "MASK"))])]
noncomputable def b_div:List S:=[.assign "divisor" (.call "to_signed" [(.var "y")]), .ite (.cmp .LtE (.var "divisor") (.lit (.int (0)))) [.ret (.lit .none)] [], .unpack ["quotient", "rest"] (.call "divmod" [(.call "to_signed" [(.var "x")]), (.var "divisor")]), .ret (.call "flagged" [(.bin .BitAnd (.var "quotient") (.glob "MASK")), (.lit (.int (0))), (.lit (.int (0))), (.var "rest")])]
noncomputable def b_shift_left:List S:=[.ret (.call "flagged" [(.bin .BitAnd (.bin .LShift (.var "x") (.bin .BitAnd (.var "y") (.lit (.int (31))))) (.glob "MASK")), (.lit (.int (0))), (.lit (.int (0)))])]
noncomputable def b_shift_arith:List S:=[.ret (.call "flagged" [(.bin .BitAnd (.bin .RShift (.call "to_signed" [(.var "x")]) (.bin .BitAnd (.var "y") (.lit (.int (31))))) (.glob "MASK")), (.lit (.int (0))), (.lit (.int (0)))])]
noncomputable def b_rotate:List S:=[.assign "count" (.bin .BitAnd (.var "y") (.lit (.int (31)))), .ret (.call "flagged" [(.bin .BitAnd (.bin .BitOr (.bin .RShift (.var "x") (.var "count")) (.bin .LShift (.var "x") (.bin .Sub (.lit (.int (32))) (.var "count")))) (.glob "MASK")), (.lit (.int (0))), (.lit (.int (0)))])]
noncomputable def b_bitwise:List S:=[.ite (.cmp .Eq (.var "name") (.lit (.str "AND"))) [.ret (.call "flagged" [(.bin .BitAnd (.var "x") (.var "y")), (.lit (.int (0))), (.lit (.int (0)))])] [], .ite (.cmp .Eq (.var "name") (.lit (.str "ANN"))) [.ret (.call "flagged" [(.bin .BitAnd (.var "x") (.bin .BitXor (.var "y") (.glob "MASK"))), (.lit (.int (0))), (.lit (.int (0)))])] [], .ite (.cmp .Eq (.var "name") (.lit (.str "IOR"))) [.ret (.call "flagged" [(.bin .BitOr (.var "x") (.var "y")), (.lit (.int (0))), (.lit (.int (0)))])] [], .ite (.cmp .Eq (.var "name") (.lit (.str "XOR"))) [.ret (.call "flagged" [(.bin .BitXor (.var "x") (.var "y")), (.lit (.int (0))), (.lit (.int (0)))])] [], .ret (.lit .none)]
noncomputable def b_operate:List S:=[.ite (.cmp .Eq (.var "name") (.lit (.str "MOV"))) [.ret (.call "flagged" [(.var "y"), (.lit (.int (0))), (.lit (.int (0)))])] [], .ite (.cmp .Eq (.var "name") (.lit (.str "ADD"))) [.ret (.call "add" [(.var "x"), (.var "y")])] [], .ite (.cmp .Eq (.var "name") (.lit (.str "SUB"))) [.ret (.call "sub" [(.var "x"), (.var "y")])] [], .ite (.cmp .Eq (.var "name") (.lit (.str "MUL"))) [.ret (.call "mul" [(.var "x"), (.var "y")])] [], .ite (.cmp .Eq (.var "name") (.lit (.str "DIV"))) [.ret (.call "div" [(.var "x"), (.var "y")])] [], .ite (.cmp .Eq (.var "name") (.lit (.str "LSL"))) [.ret (.call "shift_left" [(.var "x"), (.var "y")])] [], .ite (.cmp .Eq (.var "name") (.lit (.str "ASR"))) [.ret (.call "shift_arith" [(.var "x"), (.var "y")])] [], .ite (.cmp .Eq (.var "name") (.lit (.str "ROR"))) [.ret (.call "rotate" [(.var "x"), (.var "y")])] [], .ret (.call "bitwise" [(.var "name"), (.var "x"), (.var "y")])]
noncomputable def b_calculations:List S:=[.ret (.tup [(.lit (.str "LSL")), (.lit (.str "ASR")), (.lit (.str "ROR")), (.lit (.str "AND")), (.lit (.str "ANN")), (.lit (.str "IOR")), (.lit (.str "XOR")), (.lit (.str "ADD")), (.lit (.str "SUB")), (.lit (.str "MUL")), (.lit (.str "DIV"))])]
noncomputable def b_is_memory:List S:=[.ret (.cmp .In (.sub (.var "row") (.lit (.int (0)))) (.tup [(.lit (.str "LDR")), (.lit (.str "LDB")), (.lit (.str "STR")), (.lit (.str "STB"))]))]
noncomputable def b_is_load:List S:=[.ret (.boolop true [(.cmp .Eq (.sub (.var "row") (.lit (.int (0)))) (.lit (.str "LDR"))), (.cmp .Eq (.sub (.var "row") (.lit (.int (0)))) (.lit (.str "LDB")))])]
noncomputable def b_is_store:List S:=[.ret (.boolop true [(.cmp .Eq (.sub (.var "row") (.lit (.int (0)))) (.lit (.str "STR"))), (.cmp .Eq (.sub (.var "row") (.lit (.int (0)))) (.lit (.str "STB")))])]
noncomputable def b_is_control:List S:=[.ret (.cmp .In (.sub (.var "row") (.lit (.int (0)))) (.tup [(.lit (.str "B")), (.lit (.str "BL")), (.lit (.str "BR")), (.lit (.str "BLR")), (.lit (.str "TRAP"))]))]
noncomputable def b_base_name:List S:=[.assign "name" (.sub (.var "row") (.lit (.int (0)))), .ite (.cmp .In (.var "name") (.call "calculations" [])) [.ret (.var "name")] [], .ite (.boolop false [(.cmp .Eq (.slice (.var "name") (some (.neg (.lit (.int (1))))) none) (.lit (.str "I"))), (.cmp .In (.slice (.var "name") none (some (.neg (.lit (.int (1)))))) (.call "calculations" []))]) [.ret (.slice (.var "name") none (some (.neg (.lit (.int (1))))))] [], .ret (.lit (.str ""))]
noncomputable def b_write_set:List S:=[.ite (.call "is_store" [(.var "row")]) [.ret (.lit (.int (0)))] [], .ite (.call "is_load" [(.var "row")]) [.ret (.bin .LShift (.lit (.int (1))) (.sub (.var "row") (.lit (.int (1)))))] [], .assign "found" (.bin .BitOr (.bin .LShift (.lit (.int (1))) (.sub (.var "row") (.lit (.int (1))))) (.bin .LShift (.lit (.int (1))) (.glob "FLAGS"))), .ite (.cmp .In (.call "base_name" [(.var "row")]) (.tup [(.lit (.str "MUL")), (.lit (.str "DIV"))])) [.assign "found" (.bin .BitOr (.var "found") (.bin .LShift (.lit (.int (1))) (.glob "HIGH")))] [], .ret (.var "found")]
noncomputable def b_bytes_of:List S:=[.ret (.ite (.cmp .In (.sub (.var "row") (.lit (.int (0)))) (.tup [(.lit (.str "LDR")), (.lit (.str "STR"))])) (.lit (.int (4))) (.lit (.int (1))))]
noncomputable def b_apart:List S:=[.ite (.cmp .LtE (.bin .Add (.sub (.var "first") (.lit (.int (3)))) (.call "bytes_of" [(.var "first")])) (.sub (.var "second") (.lit (.int (3))))) [.ret (.lit (.bool true))] [], .ret (.cmp .LtE (.bin .Add (.sub (.var "second") (.lit (.int (3)))) (.call "bytes_of" [(.var "second")])) (.sub (.var "first") (.lit (.int (3)))))]
noncomputable def b_as_immediate:List S:=[.assign "signed" (.ite (.cmp .GtE (.var "value") (.glob "HALF")) (.bin .Sub (.var "value") (.glob "WORD")) (.var "value")), .ite (.boolop false [(.cmp .LtE (.neg (.lit (.int (65536)))) (.var "signed")), (.cmp .LtE (.var "signed") (.lit (.int (65535))))]) [.ret (.var "signed")] [], .ret (.lit .none)]
noncomputable def b_is_even_handed:List S:=[.ret (.cmp .In (.var "name") (.tup [(.lit (.str "ADD")), (.lit (.str "MUL")), (.lit (.str "AND")), (.lit (.str "IOR")), (.lit (.str "XOR"))]))]
noncomputable def b_keeps_move_flags:List S:=[.ret (.cmp .In (.var "name") (.tup [(.lit (.str "MOV")), (.lit (.str "MOVH")), (.lit (.str "LSL")), (.lit (.str "ASR")), (.lit (.str "ROR")), (.lit (.str "AND")), (.lit (.str "ANN")), (.lit (.str "IOR")), (.lit (.str "XOR"))]))]
noncomputable def b_V___init__:List S:=[.setAttr (.var "self") "count" (.lit (.int (0))), .setAttr (.var "self") "regs" (.dict [] []), .setAttr (.var "self") "consts" (.dict [] []), .setAttr (.var "self") "numbers" (.dict [] []), .setAttr (.var "self") "table" (.dict [] []), .setAttr (.var "self") "words" (.dict [] [])]
noncomputable def b_V_fresh:List S:=[.augAttr (.var "self") "count" .Add (.lit (.int (1))), .ret (.attr (.var "self") "count")]
noncomputable def b_V_const:List S:=[.ite (.cmp .NotIn (.var "value") (.attr (.var "self") "numbers")) [.setSub (.attr (.var "self") "numbers") (.var "value") (.meth (.var "self") "fresh" []), .setSub (.attr (.var "self") "consts") (.sub (.attr (.var "self") "numbers") (.var "value")) (.var "value")] [], .ret (.sub (.attr (.var "self") "numbers") (.var "value"))]
noncomputable def b_V_of:List S:=[.ite (.cmp .NotIn (.var "register") (.attr (.var "self") "regs")) [.setSub (.attr (.var "self") "regs") (.var "register") (.meth (.var "self") "fresh" [])] [], .ret (.sub (.attr (.var "self") "regs") (.var "register"))]
noncomputable def b_V_holder:List S:=[.for_ "register" (.range [(.lit (.int (16)))]) [.ite (.boolop false [(.cmp .NotEq (.var "register") (.var "but")), (.cmp .Eq (.meth (.attr (.var "self") "regs") "get" [(.var "register"), (.lit (.int (0)))]) (.var "number"))]) [.ret (.var "register")] []], .ret (.neg (.lit (.int (1))))]
noncomputable def b_V_calculated:List S:=[.ite (.boolop false [(.cmp .In (.var "left") (.attr (.var "self") "consts")), (.cmp .In (.var "right") (.attr (.var "self") "consts"))]) [.assign "found" (.call "operate" [(.var "name"), (.sub (.attr (.var "self") "consts") (.var "left")), (.sub (.attr (.var "self") "consts") (.var "right"))]), .ite (.cmp .IsNot (.var "found") (.lit .none)) [.ret (.meth (.var "self") "const" [(.sub (.var "found") (.lit (.int (0))))])] []] [], .assign "key" (.tup [(.var "name"), (.var "left"), (.var "right")]), .ite (.boolop false [(.call "is_even_handed" [(.var "name")]), (.cmp .Lt (.var "right") (.var "left"))]) [.assign "key" (.tup [(.var "name"), (.var "right"), (.var "left")])] [], .ite (.cmp .NotIn (.var "key") (.attr (.var "self") "table")) [.setSub (.attr (.var "self") "table") (.var "key") (.meth (.var "self") "fresh" [])] [], .ret (.sub (.attr (.var "self") "table") (.var "key"))]
noncomputable def b_V_forget_words:List S:=[.assign "kept" (.dict [] []), .for_ "place" (.attr (.var "self") "words") [.assign "other" (.tup [(.lit (.str "LDR")), (.lit (.int (0))), (.lit (.int (0))), (.sub (.var "place") (.lit (.int (1))))]), .ite (.boolop false [(.cmp .Eq (.sub (.var "place") (.lit (.int (0)))) (.var "base")), (.call "apart" [(.var "other"), (.var "row")])]) [.setSub (.var "kept") (.var "place") (.sub (.attr (.var "self") "words") (.var "place"))] []], .setAttr (.var "self") "words" (.var "kept")]
noncomputable def b_result_number:List S:=[.assign "name" (.sub (.var "row") (.lit (.int (0)))), .ite (.cmp .Eq (.var "name") (.lit (.str "MOV"))) [.ret (.meth (.var "values") "of" [(.sub (.var "row") (.lit (.int (3))))])] [], .ite (.cmp .Eq (.var "name") (.lit (.str "MOVI"))) [.ret (.meth (.var "values") "const" [(.bin .Mod (.sub (.var "row") (.lit (.int (3)))) (.glob "WORD"))])] [], .ite (.cmp .Eq (.var "name") (.lit (.str "MOVH"))) [.ret (.meth (.var "values") "const" [(.bin .Mult (.sub (.var "row") (.lit (.int (3)))) (.lit (.int (65536))))])] [], .assign "operation" (.call "base_name" [(.var "row")]), .ite (.boolop true [(.cmp .Eq (.var "operation") (.lit (.str ""))), (.cmp .Eq (.var "operation") (.lit (.str "DIV")))]) [.ret (.meth (.var "values") "fresh" [])] [], .assign "left" (.meth (.var "values") "of" [(.sub (.var "row") (.lit (.int (2))))]), .ite (.cmp .Eq (.var "name") (.var "operation")) [.ret (.meth (.var "values") "calculated" [(.var "operation"), (.var "left"), (.meth (.var "values") "of" [(.sub (.var "row") (.lit (.int (3))))])])] [], .ret (.meth (.var "values") "calculated" [(.var "operation"), (.var "left"), (.meth (.var "values") "const" [(.bin .Mod (.sub (.var "row") (.lit (.int (3)))) (.glob "WORD"))])])]
noncomputable def b_with_immediate:List S:=[.assign "name" (.sub (.var "row") (.lit (.int (0)))), .ite (.boolop true [(.cmp .NotEq (.var "name") (.call "base_name" [(.var "row")])), (.cmp .Eq (.var "name") (.lit (.str ""))), (.cmp .Eq (.var "name") (.lit (.str "DIV")))]) [.ret (.var "row")] [], .assign "number" (.meth (.var "values") "of" [(.sub (.var "row") (.lit (.int (3))))]), .ite (.cmp .NotIn (.var "number") (.attr (.var "values") "consts")) [.ret (.var "row")] [], .assign "value" (.call "as_immediate" [(.sub (.attr (.var "values") "consts") (.var "number"))]), .ite (.cmp .Is (.var "value") (.lit .none)) [.ret (.var "row")] [], .ret (.tup [(.bin .Add (.var "name") (.lit (.str "I"))), (.sub (.var "row") (.lit (.int (1)))), (.sub (.var "row") (.lit (.int (2)))), (.var "value")])]
noncomputable def b_better_row:List S:=[.assign "operation" (.call "base_name" [(.var "row")]), .ite (.boolop true [(.cmp .In (.var "operation") (.tup [(.lit (.str "MUL")), (.lit (.str "DIV"))])), (.cmp .Eq (.sub (.var "row") (.lit (.int (0)))) (.lit (.str "GETH")))]) [.ret (.call "with_immediate" [(.var "values"), (.var "row")])] [], .ite (.boolop false [(.var "dead"), (.cmp .Eq (.meth (.attr (.var "values") "regs") "get" [(.sub (.var "row") (.lit (.int (1)))), (.lit (.int (0)))]) (.var "number"))]) [.ret (.lit .none)] [], .assign "free" (.boolop true [(.var "dead"), (.call "keeps_move_flags" [(.var "operation")]), (.cmp .Eq (.sub (.var "row") (.lit (.int (0)))) (.lit (.str "MOVH")))]), .ite (.boolop false [(.var "free"), (.cmp .NotIn (.sub (.var "row") (.lit (.int (0)))) (.tup [(.lit (.str "MOV")), (.lit (.str "MOVI"))]))]) [.ite (.boolop false [(.cmp .In (.var "number") (.attr (.var "values") "consts")), (.cmp .IsNot (.call "as_immediate" [(.sub (.attr (.var "values") "consts") (.var "number"))]) (.lit .none))]) [.ret (.tup [(.lit (.str "MOVI")), (.sub (.var "row") (.lit (.int (1)))), (.lit (.int (0))), (.call "as_immediate" [(.sub (.attr (.var "values") "consts") (.var "number"))])])] [], .assign "holder" (.meth (.var "values") "holder" [(.var "number"), (.sub (.var "row") (.lit (.int (1))))]), .ite (.cmp .GtE (.var "holder") (.lit (.int (0)))) [.ret (.tup [(.lit (.str "MOV")), (.sub (.var "row") (.lit (.int (1)))), (.lit (.int (0))), (.var "holder")])] []] [], .ret (.call "with_immediate" [(.var "values"), (.var "row")])]
noncomputable def b_load_row:List S:=[.assign "place" (.tup [(.meth (.var "values") "of" [(.sub (.var "row") (.lit (.int (2))))]), (.sub (.var "row") (.lit (.int (3))))]), .ite (.boolop true [(.cmp .Eq (.sub (.var "row") (.lit (.int (0)))) (.lit (.str "LDB"))), (.cmp .NotIn (.var "place") (.attr (.var "values") "words"))]) [.setSub (.attr (.var "values") "regs") (.sub (.var "row") (.lit (.int (1)))) (.meth (.var "values") "fresh" []), .ite (.cmp .Eq (.sub (.var "row") (.lit (.int (0)))) (.lit (.str "LDR"))) [.setSub (.attr (.var "values") "words") (.var "place") (.sub (.attr (.var "values") "regs") (.sub (.var "row") (.lit (.int (1)))))] [], .ret (.var "row")] [], .assign "number" (.sub (.attr (.var "values") "words") (.var "place")), .assign "result" (.var "row"), .ite (.cmp .Eq (.meth (.attr (.var "values") "regs") "get" [(.sub (.var "row") (.lit (.int (1)))), (.lit (.int (0)))]) (.var "number")) [.assign "result" (.lit .none)] [.ite (.boolop false [(.var "dead"), (.cmp .GtE (.meth (.var "values") "holder" [(.var "number"), (.sub (.var "row") (.lit (.int (1))))]) (.lit (.int (0))))]) [.assign "result" (.tup [(.lit (.str "MOV")), (.sub (.var "row") (.lit (.int (1)))), (.lit (.int (0))), (.meth (.var "values") "holder" [(.var "number"), (.sub (.var "row") (.lit (.int (1))))])])] []], .setSub (.attr (.var "values") "regs") (.sub (.var "row") (.lit (.int (1)))) (.var "number"), .ret (.var "result")]
noncomputable def b_store_row:List S:=[.assign "place" (.tup [(.meth (.var "values") "of" [(.sub (.var "row") (.lit (.int (2))))]), (.sub (.var "row") (.lit (.int (3))))]), .assign "number" (.meth (.var "values") "of" [(.sub (.var "row") (.lit (.int (1))))]), .ite (.boolop false [(.cmp .Eq (.sub (.var "row") (.lit (.int (0)))) (.lit (.str "STR"))), (.cmp .Eq (.meth (.attr (.var "values") "words") "get" [(.var "place"), (.lit (.int (0)))]) (.var "number"))]) [.ret (.lit .none)] [], .expr (.meth (.var "values") "forget_words" [(.sub (.var "place") (.lit (.int (0)))), (.var "row")]), .ite (.cmp .Eq (.sub (.var "row") (.lit (.int (0)))) (.lit (.str "STR"))) [.setSub (.attr (.var "values") "words") (.var "place") (.var "number")] [], .ret (.var "row")]
noncomputable def b_fixed_row:List S:=[.ite (.call "is_store" [(.var "row")]) [.setAttr (.var "values") "words" (.dict [] [])] [.ite (.not_ (.call "is_control" [(.var "row")])) [.setSub (.attr (.var "values") "regs") (.sub (.var "row") (.lit (.int (1)))) (.meth (.var "values") "fresh" [])] []]]
noncomputable def b_dead_flags:List S:=[.assign "found" (.bin .Mult (.list [(.lit (.bool false))]) (.bcall .len [(.var "rows")])), .assign "dead" (.lit (.bool false)), .for_ "place" (.range [(.bin .Sub (.bcall .len [(.var "rows")]) (.lit (.int (1)))), (.neg (.lit (.int (1)))), (.neg (.lit (.int (1))))]) [.setSub (.var "found") (.var "place") (.var "dead"), .assign "row" (.sub (.var "rows") (.var "place")), .ite (.call "is_control" [(.var "row")]) [.assign "dead" (.lit (.bool false))] [.ite (.cmp .Eq (.bin .BitAnd (.bin .RShift (.call "write_set" [(.var "row")]) (.glob "FLAGS")) (.lit (.int (1)))) (.lit (.int (1)))) [.assign "dead" (.lit (.bool true))] []]], .ret (.var "found")]
noncomputable def b_simplified:List S:=[.assign "values" (.call "Values" []), .assign "dead" (.call "dead_flags" [(.var "rows")]), .assign "result" (.list []), .for_ "place" (.range [(.bcall .len [(.var "rows")])]) [.assign "row" (.sub (.var "rows") (.var "place")), .assign "better" (.var "row"), .ite (.boolop true [(.cmp .In (.var "place") (.var "fixed")), (.call "is_control" [(.var "row")])]) [.expr (.call "fixed_row" [(.var "values"), (.var "row")])] [.ite (.call "is_load" [(.var "row")]) [.assign "better" (.call "load_row" [(.var "values"), (.var "row"), (.sub (.var "dead") (.var "place"))])] [.ite (.call "is_store" [(.var "row")]) [.assign "better" (.call "store_row" [(.var "values"), (.var "row")])] [.assign "number" (.call "result_number" [(.var "values"), (.var "row")]), .assign "better" (.call "better_row" [(.var "values"), (.var "row"), (.var "number"), (.sub (.var "dead") (.var "place"))]), .setSub (.attr (.var "values") "regs") (.sub (.var "row") (.lit (.int (1)))) (.var "number")]]], .expr (.meth (.var "result") "append" [(.var "better")])], .ret (.var "result")]
noncomputable def b_may_meet:List S:=[.ret (.boolop true [(.cmp .NotEq (.sub (.var "place") (.lit (.int (0)))) (.var "base")), (.not_ (.call "apart" [(.tup [(.lit (.str "STR")), (.lit (.int (0))), (.lit (.int (0))), (.sub (.var "place") (.lit (.int (1))))]), (.var "row")]))])]
noncomputable def b_covered_stores:List S:=[.assign "values" (.call "Values" []), .assign "pending" (.dict [] []), .assign "found" (.list []), .for_ "at" (.range [(.bcall .len [(.var "rows")])]) [.assign "row" (.sub (.var "rows") (.var "at")), .ite (.cmp .Is (.var "row") (.lit .none)) [.cont] [], .ite (.boolop true [(.cmp .In (.var "at") (.var "fixed")), (.call "is_control" [(.var "row")])]) [.assign "pending" (.dict [] []), .expr (.call "fixed_row" [(.var "values"), (.var "row")])] [.ite (.call "is_memory" [(.var "row")]) [.assign "base" (.meth (.var "values") "of" [(.sub (.var "row") (.lit (.int (2))))]), .assign "place" (.tup [(.var "base"), (.sub (.var "row") (.lit (.int (3))))]), .ite (.cmp .Eq (.sub (.var "row") (.lit (.int (0)))) (.lit (.str "STR"))) [.ite (.cmp .In (.var "place") (.var "pending")) [.expr (.meth (.var "found") "append" [(.sub (.var "pending") (.var "place"))])] [], .setSub (.var "pending") (.var "place") (.var "at")] [.ite (.call "is_load" [(.var "row")]) [.assign "pending" (.dcomp (.var "key") (.sub (.var "pending") (.var "key")) "key" (.var "pending") [(.not_ (.call "may_meet" [(.var "key"), (.var "row"), (.var "base")]))]), .setSub (.attr (.var "values") "regs") (.sub (.var "row") (.lit (.int (1)))) (.meth (.var "values") "fresh" [])] []]] [.setSub (.attr (.var "values") "regs") (.sub (.var "row") (.lit (.int (1)))) (.call "result_number" [(.var "values"), (.var "row")])]]], .ret (.var "found")]
noncomputable def b_number_run:List S:=[.assign "result" (.call "simplified" [(.var "rows"), (.var "fixed")]), .for_ "at" (.call "covered_stores" [(.var "result"), (.var "fixed")]) [.setSub (.var "result") (.var "at") (.lit .none)], .ret (.var "result")]
noncomputable def b__law_figures:List S:=[.assign "row" (.list []), .for_ "cell" (.slice (.var "script") none (some (.lit (.int (40))))) [.assign "rest" (.bin .Add (.bin .Mult (.bcall .abs [(.var "cell")]) (.lit (.int (2)))) (.ite (.cmp .Lt (.var "cell") (.lit (.int (0)))) (.lit (.int (1))) (.lit (.int (0))))), .for_ "lap" (.range [(.lit (.int (40)))]) [.ite (.boolop true [(.cmp .Eq (.var "lap") (.lit (.int (0)))), (.cmp .Gt (.var "rest") (.lit (.int (0))))]) [.expr (.meth (.var "row") "append" [(.bin .Mod (.var "rest") (.lit (.int (120))))]), .assign "rest" (.bin .FloorDiv (.var "rest") (.lit (.int (120))))] []]], .assign "row" (.slice (.var "row") none (some (.lit (.int (90))))), .expr (.meth (.var "row") "reverse" []), .ret (.var "row")]
noncomputable def b__law_draw:List S:=[.ret (.ite (.cmp .NotEq (.var "row") (.list [])) (.bin .Mod (.meth (.var "row") "pop" []) (.var "most")) (.lit (.int (0))))]
noncomputable def b__law_calculated:List S:=[.assign "word" (.lit (.int (4294967296))), .assign "sx" (.ite (.cmp .GtE (.var "x") (.bin .FloorDiv (.var "word") (.lit (.int (2))))) (.bin .Sub (.var "x") (.var "word")) (.var "x")), .assign "sy" (.ite (.cmp .GtE (.var "y") (.bin .FloorDiv (.var "word") (.lit (.int (2))))) (.bin .Sub (.var "y") (.var "word")) (.var "y")), .assign "carry" (.lit (.int (0))), .assign "over" (.lit (.int (0))), .assign "high" (.lit .none), .ite (.cmp .Eq (.var "name") (.lit (.str "ADD"))) [.assign "found" (.bin .Add (.var "x") (.var "y")), .assign "carry" (.bin .FloorDiv (.var "found") (.var "word")), .assign "over" (.ite (.chain (.bin .FloorDiv (.neg (.var "word")) (.lit (.int (2)))) .LtE (.bin .Add (.var "sx") (.var "sy")) .Lt (.bin .FloorDiv (.var "word") (.lit (.int (2))))) (.lit (.int (0))) (.lit (.int (1))))] [.ite (.cmp .Eq (.var "name") (.lit (.str "SUB"))) [.assign "found" (.bin .Sub (.var "x") (.var "y")), .assign "carry" (.ite (.cmp .Lt (.var "x") (.var "y")) (.lit (.int (1))) (.lit (.int (0)))), .assign "over" (.ite (.chain (.bin .FloorDiv (.neg (.var "word")) (.lit (.int (2)))) .LtE (.bin .Sub (.var "sx") (.var "sy")) .Lt (.bin .FloorDiv (.var "word") (.lit (.int (2))))) (.lit (.int (0))) (.lit (.int (1))))] [.ite (.cmp .Eq (.var "name") (.lit (.str "MUL"))) [.assign "found" (.bin .Mult (.var "sx") (.var "sy")), .assign "over" (.ite (.chain (.bin .FloorDiv (.neg (.var "word")) (.lit (.int (2)))) .LtE (.var "found") .Lt (.bin .FloorDiv (.var "word") (.lit (.int (2))))) (.lit (.int (0))) (.lit (.int (1)))), .assign "high" (.bin .Mod (.bin .FloorDiv (.var "found") (.var "word")) (.var "word"))] [.ite (.cmp .Eq (.var "name") (.lit (.str "LSL"))) [.assign "found" (.bin .Mult (.var "x") (.bin .Pow (.lit (.int (2))) (.bin .Mod (.var "y") (.lit (.int (32))))))] [.ite (.cmp .Eq (.var "name") (.lit (.str "ASR"))) [.assign "found" (.bin .FloorDiv (.var "sx") (.bin .Pow (.lit (.int (2))) (.bin .Mod (.var "y") (.lit (.int (32))))))] [.assign "found" (.sub (.dict ["AND", "ANN", "IOR", "XOR", "MOV"] [(.bin .BitAnd (.var "x") (.var "y")), (.bin .BitAnd (.var "x") (.bin .Sub (.bin .Sub (.var "word") (.lit (.int (1)))) (.var "y"))), (.bin .BitOr (.var "x") (.var "y")), (.bin .BitXor (.var "x") (.var "y")), (.var "y")]) (.var "name"))]]]]], .assign "found" (.bin .Mod (.var "found") (.var "word")), .ret (.tup [(.var "found"), (.list [(.bin .FloorDiv (.var "found") (.bin .FloorDiv (.var "word") (.lit (.int (2))))), (.ite (.cmp .Eq (.var "found") (.lit (.int (0)))) (.lit (.int (1))) (.lit (.int (0)))), (.var "carry"), (.var "over")]), (.var "high")])]
noncomputable def b__law_step:List S:=[.unpack ["name", "first", "second", "last"] (.var "step"), .assign "regs" (.sub (.var "state") (.lit (.str "regs"))), .ite (.cmp .In (.var "name") (.list [(.lit (.str "LDR")), (.lit (.str "LDB"))])) [.assign "spot" (.bin .Mod (.bin .Add (.sub (.var "regs") (.var "second")) (.var "last")) (.lit (.int (4294967296)))), .assign "many" (.ite (.cmp .Eq (.var "name") (.lit (.str "LDR"))) (.lit (.int (4))) (.lit (.int (1)))), .setSub (.var "regs") (.var "first") (.bcall .sum [(.lcomp (.bin .Mult (.meth (.sub (.var "state") (.lit (.str "bytes"))) "get" [(.bin .Add (.var "spot") (.var "lap")), (.lit (.int (0)))]) (.bin .Pow (.lit (.int (256))) (.var "lap"))) "lap" (.range [(.var "many")]) [])])] [.ite (.cmp .In (.var "name") (.list [(.lit (.str "STR")), (.lit (.str "STB"))])) [.assign "spot" (.bin .Mod (.bin .Add (.sub (.var "regs") (.var "second")) (.var "last")) (.lit (.int (4294967296)))), .for_ "lap" (.range [(.ite (.cmp .Eq (.var "name") (.lit (.str "STR"))) (.lit (.int (4))) (.lit (.int (1))))]) [.setSub (.sub (.var "state") (.lit (.str "bytes"))) (.bin .Add (.var "spot") (.var "lap")) (.bin .Mod (.bin .FloorDiv (.sub (.var "regs") (.var "first")) (.bin .Pow (.lit (.int (256))) (.var "lap"))) (.lit (.int (256))))]] [.assign "plain_name" (.ite (.cmp .Eq (.sub (.var "name") (.neg (.lit (.int (1))))) (.lit (.str "I"))) (.slice (.var "name") none (some (.neg (.lit (.int (1)))))) (.var "name")), .assign "right" (.ite (.cmp .Eq (.sub (.var "name") (.neg (.lit (.int (1))))) (.lit (.str "I"))) (.bin .Mod (.var "last") (.lit (.int (4294967296)))) (.sub (.var "regs") (.var "last"))), .ite (.cmp .Eq (.var "name") (.lit (.str "MOVH"))) [.assign "plain_name" (.lit (.str "MOV")), .assign "right" (.bin .Mult (.var "last") (.lit (.int (65536))))] [], .ite (.cmp .Eq (.var "name") (.lit (.str "GETH"))) [.assign "plain_name" (.lit (.str "MOV")), .assign "right" (.sub (.var "state") (.lit (.str "high")))] [], .unpack ["found", "told", "high"] (.call "_law_calculated" [(.var "plain_name"), (.sub (.var "regs") (.var "second")), (.var "right")]), .setSub (.var "regs") (.var "first") (.var "found"), .setSub (.var "state") (.lit (.str "flags")) (.var "told"), .ite (.cmp .IsNot (.var "high") (.lit .none)) [.setSub (.var "state") (.lit (.str "high")) (.var "high")] []]]]
noncomputable def b__law_row_of:List S:=[.assign "kind" (.call "_law_draw" [(.var "row"), (.lit (.int (12)))]), .assign "first" (.call "_law_draw" [(.var "row"), (.lit (.int (7)))]), .assign "second" (.call "_law_draw" [(.var "row"), (.lit (.int (7)))]), .ite (.cmp .Lt (.var "kind") (.lit (.int (3)))) [.ret (.tup [(.sub (.list [(.lit (.str "LDR")), (.lit (.str "LDR")), (.lit (.str "LDB"))]) (.call "_law_draw" [(.var "row"), (.lit (.int (3)))])), (.var "first"), (.bin .Add (.lit (.int (4))) (.bin .Mod (.var "second") (.lit (.int (2))))), (.bin .Mult (.lit (.int (4))) (.call "_law_draw" [(.var "row"), (.lit (.int (3)))]))])] [], .ite (.cmp .Lt (.var "kind") (.lit (.int (6)))) [.ret (.tup [(.sub (.list [(.lit (.str "STR")), (.lit (.str "STR")), (.lit (.str "STB"))]) (.call "_law_draw" [(.var "row"), (.lit (.int (3)))])), (.var "first"), (.bin .Add (.lit (.int (4))) (.bin .Mod (.var "second") (.lit (.int (2))))), (.bin .Mult (.lit (.int (4))) (.call "_law_draw" [(.var "row"), (.lit (.int (3)))]))])] [], .ite (.cmp .Eq (.var "kind") (.lit (.int (6)))) [.ret (.tup [(.sub (.list [(.lit (.str "MOVI")), (.lit (.str "MOVH"))]) (.call "_law_draw" [(.var "row"), (.lit (.int (2)))])), (.bin .Mod (.var "first") (.lit (.int (4)))), (.lit (.int (0))), (.call "_law_draw" [(.var "row"), (.lit (.int (3)))])])] [], .ite (.cmp .Eq (.var "kind") (.lit (.int (7)))) [.ret (.tup [(.lit (.str "TRAP")), (.sub (.list [(.lit (.str "EQ")), (.lit (.str "NE")), (.lit (.str "MI")), (.lit (.str "CS")), (.lit (.str "VS")), (.lit (.str "LT")), (.lit (.str "NV"))]) (.call "_law_draw" [(.var "row"), (.lit (.int (7)))])), (.bin .Add (.lit (.int (1))) (.var "second")), (.lit (.int (9)))])] [], .ite (.cmp .Eq (.var "kind") (.lit (.int (8)))) [.ret (.tup [(.lit (.str "GETH")), (.bin .Mod (.var "first") (.lit (.int (4)))), (.lit (.int (0))), (.lit (.int (0)))])] [], .assign "name" (.sub (.list [(.lit (.str "ADD")), (.lit (.str "SUB")), (.lit (.str "MUL")), (.lit (.str "AND")), (.lit (.str "XOR")), (.lit (.str "LSL"))]) (.call "_law_draw" [(.var "row"), (.lit (.int (6)))])), .ite (.cmp .Eq (.var "kind") (.lit (.int (9)))) [.ret (.tup [(.bin .Add (.var "name") (.lit (.str "I"))), (.bin .Mod (.var "first") (.lit (.int (4)))), (.var "second"), (.call "_law_draw" [(.var "row"), (.lit (.int (3)))])])] [], .ite (.cmp .Eq (.var "kind") (.lit (.int (10)))) [.ret (.tup [(.lit (.str "MOV")), (.bin .Mod (.var "first") (.lit (.int (4)))), (.lit (.int (0))), (.var "second")])] [], .ret (.tup [(.var "name"), (.bin .Mod (.var "first") (.lit (.int (4)))), (.bin .Mod (.var "second") (.lit (.int (4)))), (.call "_law_draw" [(.var "row"), (.lit (.int (4)))])])]
noncomputable def b__law_holds:List S:=[.unpack ["n", "z", "c", "v"] (.var "told"), .ret (.cmp .Eq (.sub (.dict ["EQ", "NE", "MI", "CS", "VS", "LT", "NV"] [(.var "z"), (.bin .Sub (.lit (.int (1))) (.var "z")), (.var "n"), (.var "c"), (.var "v"), (.bin .Mod (.bin .Add (.var "n") (.var "v")) (.lit (.int (2)))), (.lit (.int (0)))]) (.var "cond")) (.lit (.int (1))))]
noncomputable def b__law_tidy:List S:=[.setSub (.var "state") (.lit (.str "bytes")) (.dcomp (.var "spot") (.sub (.sub (.var "state") (.lit (.str "bytes"))) (.var "spot")) "spot" (.sub (.var "state") (.lit (.str "bytes"))) [(.cmp .NotEq (.sub (.sub (.var "state") (.lit (.str "bytes"))) (.var "spot")) (.lit (.int (0))))]), .ret (.var "state")]
noncomputable def b__law_end:List S:=[.assign "state" (.dict ["regs", "bytes", "flags", "high"] [(.bcall .list [(.var "ahead")]), (.dcomp (.bin .Add (.lit (.int (1000))) (.var "lap")) (.bin .Add (.bin .Mult (.lit (.int (5))) (.var "lap")) (.lit (.int (1)))) "lap" (.range [(.lit (.int (20)))]) []), (.list [(.lit (.int (0))), (.lit (.int (1))), (.lit (.int (0))), (.lit (.int (0)))]), (.lit (.int (6)))]), .for_ "spot" (.range [(.bcall .len [(.var "steps")])]) [.assign "step" (.sub (.var "steps") (.var "spot")), .ite (.cmp .Is (.var "step") (.lit .none)) [.cont] [], .ite (.cmp .Eq (.sub (.var "step") (.lit (.int (0)))) (.lit (.str "TRAP"))) [.ite (.call "_law_holds" [(.sub (.var "step") (.lit (.int (1)))), (.sub (.var "state") (.lit (.str "flags")))]) [.ret (.tup [(.var "spot"), (.call "_law_tidy" [(.var "state")])])] [], .cont] [], .ite (.cmp .In (.var "spot") (.var "later_on")) [.assign "step" (.tup [(.sub (.var "step") (.lit (.int (0)))), (.sub (.var "step") (.lit (.int (1)))), (.sub (.var "step") (.lit (.int (2)))), (.bin .Add (.sub (.var "step") (.lit (.int (3)))) (.lit (.int (8))))])] [], .expr (.call "_law_step" [(.var "state"), (.var "step")])], .ret (.tup [(.bcall .len [(.var "steps")]), (.call "_law_tidy" [(.var "state")])])]
noncomputable def b__law_plain_wins:List S:=[.ite (.cmp .Gt (.bcall .len [(.var "later_on")]) (.lit (.int (0)))) [.ret (.lit (.bool true))] [], .for_ "spot" (.range [(.lit (.int (1))), (.bcall .len [(.var "steps")])]) [.assign "one" (.sub (.var "steps") (.bin .Sub (.var "spot") (.lit (.int (1))))), .assign "two" (.sub (.var "steps") (.var "spot")), .ite (.boolop false [(.cmp .Eq (.sub (.var "one") (.lit (.int (0)))) (.lit (.str "STR"))), (.cmp .Eq (.sub (.var "two") (.lit (.int (0)))) (.lit (.str "LDR"))), (.cmp .Eq (.slice (.var "one") (some (.lit (.int (1)))) none) (.slice (.var "two") (some (.lit (.int (1)))) none)), (.cmp .IsNot (.sub (.call "number_run" [(.list [(.var "one"), (.var "two")]), (.dict [] [])]) (.lit (.int (1)))) (.lit .none))]) [.ret (.lit (.bool false))] [], .ite (.boolop false [(.cmp .Eq (.sub (.var "one") (.lit (.int (0)))) (.lit (.str "STR"))), (.cmp .Eq (.sub (.var "two") (.lit (.int (0)))) (.lit (.str "STR"))), (.cmp .Eq (.slice (.var "one") (some (.lit (.int (2)))) none) (.slice (.var "two") (some (.lit (.int (2)))) none)), (.cmp .NotEq (.meth (.call "number_run" [(.list [(.var "one"), (.var "two")]), (.dict [] [])]) "count" [(.lit .none)]) (.lit (.int (1))))]) [.ret (.lit (.bool false))] [], .ite (.boolop false [(.cmp .Eq (.sub (.var "one") (.lit (.int (0)))) (.lit (.str "LDR"))), (.cmp .Eq (.var "one") (.var "two")), (.cmp .NotEq (.sub (.var "one") (.lit (.int (1)))) (.sub (.var "one") (.lit (.int (2))))), (.cmp .IsNot (.sub (.call "number_run" [(.list [(.var "one"), (.var "two")]), (.dict [] [])]) (.lit (.int (1)))) (.lit .none))]) [.ret (.lit (.bool false))] []], .ret (.lit (.bool true))]
noncomputable def b_law:List S:=[.assign "row" (.call "_law_figures" [(.var "script")]), .assign "steps" (.lcomp (.call "_law_row_of" [(.var "row")]) "lap" (.range [(.call "_law_draw" [(.var "row"), (.lit (.int (13)))])]) []), .assign "later_on" (.dict [] []), .for_ "lap" (.range [(.call "_law_draw" [(.var "row"), (.lit (.int (3)))])]) [.assign "spot" (.call "_law_draw" [(.var "row"), (.lit (.int (13)))]), .ite (.boolop false [(.cmp .Lt (.var "spot") (.bcall .len [(.var "steps")])), (.cmp .In (.sub (.sub (.var "steps") (.var "spot")) (.lit (.int (0)))) (.list [(.lit (.str "LDR")), (.lit (.str "STR")), (.lit (.str "MOVI")), (.lit (.str "ADDI"))]))]) [.setSub (.var "later_on") (.var "spot") (.lit (.bool true))] []], .assign "ahead" (.bin .Add (.bin .Add (.lcomp (.bin .Mult (.lit (.int (2))) (.call "_law_draw" [(.var "row"), (.lit (.int (40)))])) "lap" (.range [(.lit (.int (4)))]) []) (.list [(.lit (.int (1000))), (.bin .Add (.lit (.int (1000))) (.bin .Mult (.lit (.int (2))) (.call "_law_draw" [(.var "row"), (.lit (.int (5)))]))), (.lit (.int (12)))])) (.bin .Mult (.list [(.lit (.int (0)))]) (.lit (.int (9))))), .assign "before" (.bcall .list [(.var "steps")]), .assign "told" (.call "number_run" [(.var "steps"), (.var "later_on")]), .ite (.boolop true [(.cmp .NotEq (.var "steps") (.var "before")), (.cmp .NotEq (.bcall .len [(.var "told")]) (.bcall .len [(.var "steps")]))]) [.ret (.lit (.bool false))] [], .for_ "spot" (.range [(.bcall .len [(.var "steps")])]) [.ite (.boolop false [(.boolop true [(.cmp .In (.var "spot") (.var "later_on")), (.cmp .Eq (.sub (.sub (.var "steps") (.var "spot")) (.lit (.int (0)))) (.lit (.str "TRAP")))]), (.cmp .NotEq (.sub (.var "told") (.var "spot")) (.sub (.var "steps") (.var "spot")))]) [.ret (.lit (.bool false))] []], .ite (.cmp .NotEq (.call "_law_end" [(.var "told"), (.var "later_on"), (.var "ahead")]) (.call "_law_end" [(.var "steps"), (.var "later_on"), (.var "ahead")])) [.ret (.lit (.bool false))] [], .ret (.call "_law_plain_wins" [(.var "steps"), (.var "later_on")])]
end Mini
end
section
set_option maxRecDepth 100000
namespace Mini
open PySem PySem.W PyProof.Rows
noncomputable def fdAt (K:Frag) (a:Addr):Option FuncData:=match K.lookup a with
 | some ⟨_, _, .func fd, _⟩ => some fd
 | _ => none
noncomputable def bodyOf (fd:FuncData):List PySem.Stmt:=match fd.body with
 | .stmts b => b
 | _ => []
noncomputable def isStmts (fd:FuncData):Bool:=match fd.body with
 | .stmts _ => true
 | _ => false
noncomputable def fdOk (K:Frag) (ps:List Str) (fd:FuncData):Bool:=fd.globals == mainGlobals && (fd.builtins == builtinsNs && (fd.closure.isEmpty && (isStmts fd && (codeIn K fd.code fd.qualname && fnOk ps fd.scope))))
noncomputable def atOk (K:Frag) (ps:List Str) (a:Addr):Bool:=(fdAt K a).any (fdOk K ps) && keepIn K (.ref a)
noncomputable def erAt (K:Frag) (a:Addr):Option (List S):=(fdAt K a).bind fun fd => erSs (bodyOf fd) (scKinds fd.scope)
noncomputable def bindAt (K:Frag) (a:Addr) (vals:List Value):Option (Sem (List (Str × Value))):=(fdAt K a).map fun fd => bindArgs fd ⟨vals, []⟩
theorem fdAt_some {K:Frag} {a:Addr} {fd:FuncData} (h:fdAt K a = some fd):∃ oc od osl, K.lookup a = some ⟨oc, od, .func fd, osl⟩:=by
 unfold fdAt at h
 split at h
 ·rename_i e; cases h; exact ⟨_, _, _, e⟩
 ·exact nomatch h
theorem isStmts_body {fd:FuncData} (h:isStmts fd = true):fd.body = .stmts (bodyOf fd):=by
 unfold isStmts at h
 split at h
 ·rename_i b e; unfold bodyOf; rw [e]
 ·exact nomatch h
theorem fdOk_facts {K:Frag} {ps:List Str} {fd:FuncData} (h:fdOk K ps fd = true):fd.globals = mainGlobals ∧ fd.builtins = builtinsNs ∧ fd.closure = [] ∧ fd.body = .stmts (bodyOf fd) ∧ codeIn K fd.code fd.qualname = true ∧ fnOk ps fd.scope = true :=
 have ⟨h1, h⟩:=Bool.and_eq_true_iff.mp h
 have ⟨h2, h⟩:=Bool.and_eq_true_iff.mp h
 have ⟨h3, h⟩:=Bool.and_eq_true_iff.mp h
 have ⟨h4, h⟩:=Bool.and_eq_true_iff.mp h
 have ⟨h5, h⟩:=Bool.and_eq_true_iff.mp h
 ⟨eq_of_beq h1, eq_of_beq h2, List.isEmpty_iff.mp h3, isStmts_body h4, h5, h⟩
theorem FnAt.of {K:Frag} {a:Addr} {ps:List Str} {ys:List S} (h:atOk K ps a = true) (he:erAt K a = some ys) (hb:∀ vals:List Value, vals.length = ps.length → bindAt K a vals = some (pure (ps.zip vals))):FnAt K a ps ys:=by
 have ⟨h1, h2⟩:=Bool.and_eq_true_iff.mp h
 unfold erAt at he
 unfold bindAt at hb
 cases q:fdAt K a with
 | none => rw [q] at he; exact nomatch he
 | some fd =>
  rw [q] at h1 he hb
  obtain ⟨oc, od, osl, e⟩:=fdAt_some q
  have h1:fdOk K ps fd = true:=h1
  obtain ⟨f1, f2, f3, f4, f5, f6⟩:=fdOk_facts h1
  exact ⟨⟨oc, od, fd, osl, bodyOf fd, e, f1, f2, f3, f4, f5, f6, he, fun s _ vals hl => BindsTo.of_eq (Option.some.inj (hb vals hl))⟩, h2⟩
section
variable {P:List Value → Prop}
theorem len0 (h:P []) (v:List Value) (e:v.length = 0):P v:=by
 rw [List.length_eq_zero_iff.mp e]; exact h
theorem len1 (h:∀ a, P [a]):∀ v:List Value, v.length = 1 → P v
 | _ :: r, e => len0 (P:=fun r => P (_ :: r)) (h _) r (Nat.succ.inj e)
theorem len2 (h:∀ a b, P [a, b]):∀ v:List Value, v.length = 2 → P v
 | _ :: r, e => len1 (P:=fun r => P (_ :: r)) (h _) r (Nat.succ.inj e)
theorem len3 (h:∀ a b c, P [a, b, c]):∀ v:List Value, v.length = 3 → P v
 | _ :: r, e => len2 (P:=fun r => P (_ :: r)) (h _) r (Nat.succ.inj e)
theorem len4 (h:∀ a b c d, P [a, b, c, d]):∀ v:List Value, v.length = 4 → P v
 | _ :: r, e => len3 (P:=fun r => P (_ :: r)) (h _) r (Nat.succ.inj e)
end
noncomputable abbrev HH (P:Params):Frag:=KH.heap_1 P
theorem f_to_signed (P:Params):∃ a, nsIn (HH P) mainGlobals "to_signed" = some (some (.ref a)) ∧ FnAt (HH P) a ["x"] b_to_signed :=
 ⟨_, rfl, .of (by kernel_rfl) (by kernel_rfl) (len1 fun _ => rfl)⟩
theorem f_add (P:Params):∃ a, nsIn (HH P) mainGlobals "add" = some (some (.ref a)) ∧ FnAt (HH P) a ["x", "y"] b_add :=
 ⟨_, rfl, .of (by kernel_rfl) (by kernel_rfl) (len2 fun _ _ => rfl)⟩
theorem f_sub (P:Params):∃ a, nsIn (HH P) mainGlobals "sub" = some (some (.ref a)) ∧ FnAt (HH P) a ["x", "y"] b_sub :=
 ⟨_, rfl, .of (by kernel_rfl) (by kernel_rfl) (len2 fun _ _ => rfl)⟩
theorem f_mul (P:Params):∃ a, nsIn (HH P) mainGlobals "mul" = some (some (.ref a)) ∧ FnAt (HH P) a ["x", "y"] b_mul :=
 ⟨_, rfl, .of (by kernel_rfl) (by kernel_rfl) (len2 fun _ _ => rfl)⟩
theorem f_shift_left (P:Params):∃ a, nsIn (HH P) mainGlobals "shift_left" = some (some (.ref a)) ∧ FnAt (HH P) a ["x", "y"] b_shift_left :=
 ⟨_, rfl, .of (by kernel_rfl) (by kernel_rfl) (len2 fun _ _ => rfl)⟩
theorem f_bitwise (P:Params):∃ a, nsIn (HH P) mainGlobals "bitwise" = some (some (.ref a)) ∧ FnAt (HH P) a ["name", "x", "y"] b_bitwise :=
 ⟨_, rfl, .of (by kernel_rfl) (by kernel_rfl) (len3 fun _ _ _ => rfl)⟩
theorem f_operate (P:Params):∃ a, nsIn (HH P) mainGlobals "operate" = some (some (.ref a)) ∧ FnAt (HH P) a ["name", "x", "y"] b_operate :=
 ⟨_, rfl, .of (by kernel_rfl) (by kernel_rfl) (len3 fun _ _ _ => rfl)⟩
theorem f_calculations (P:Params):∃ a, nsIn (HH P) mainGlobals "calculations" = some (some (.ref a)) ∧ FnAt (HH P) a [] b_calculations :=
 ⟨_, rfl, .of (by kernel_rfl) (by kernel_rfl) (len0 rfl)⟩
theorem f_is_memory (P:Params):∃ a, nsIn (HH P) mainGlobals "is_memory" = some (some (.ref a)) ∧ FnAt (HH P) a ["row"] b_is_memory :=
 ⟨_, rfl, .of (by kernel_rfl) (by kernel_rfl) (len1 fun _ => rfl)⟩
theorem f_is_load (P:Params):∃ a, nsIn (HH P) mainGlobals "is_load" = some (some (.ref a)) ∧ FnAt (HH P) a ["row"] b_is_load :=
 ⟨_, rfl, .of (by kernel_rfl) (by kernel_rfl) (len1 fun _ => rfl)⟩
theorem f_is_store (P:Params):∃ a, nsIn (HH P) mainGlobals "is_store" = some (some (.ref a)) ∧ FnAt (HH P) a ["row"] b_is_store :=
 ⟨_, rfl, .of (by kernel_rfl) (by kernel_rfl) (len1 fun _ => rfl)⟩
theorem f_is_control (P:Params):∃ a, nsIn (HH P) mainGlobals "is_control" = some (some (.ref a)) ∧ FnAt (HH P) a ["row"] b_is_control :=
 ⟨_, rfl, .of (by kernel_rfl) (by kernel_rfl) (len1 fun _ => rfl)⟩
theorem f_base_name (P:Params):∃ a, nsIn (HH P) mainGlobals "base_name" = some (some (.ref a)) ∧ FnAt (HH P) a ["row"] b_base_name :=
 ⟨_, rfl, .of (by kernel_rfl) (by kernel_rfl) (len1 fun _ => rfl)⟩
theorem f_write_set (P:Params):∃ a, nsIn (HH P) mainGlobals "write_set" = some (some (.ref a)) ∧ FnAt (HH P) a ["row"] b_write_set :=
 ⟨_, rfl, .of (by kernel_rfl) (by kernel_rfl) (len1 fun _ => rfl)⟩
theorem f_bytes_of (P:Params):∃ a, nsIn (HH P) mainGlobals "bytes_of" = some (some (.ref a)) ∧ FnAt (HH P) a ["row"] b_bytes_of :=
 ⟨_, rfl, .of (by kernel_rfl) (by kernel_rfl) (len1 fun _ => rfl)⟩
theorem f_apart (P:Params):∃ a, nsIn (HH P) mainGlobals "apart" = some (some (.ref a)) ∧ FnAt (HH P) a ["first", "second"] b_apart :=
 ⟨_, rfl, .of (by kernel_rfl) (by kernel_rfl) (len2 fun _ _ => rfl)⟩
theorem f_as_immediate (P:Params):∃ a, nsIn (HH P) mainGlobals "as_immediate" = some (some (.ref a)) ∧ FnAt (HH P) a ["value"] b_as_immediate :=
 ⟨_, rfl, .of (by kernel_rfl) (by kernel_rfl) (len1 fun _ => rfl)⟩
theorem f_is_even_handed (P:Params):∃ a, nsIn (HH P) mainGlobals "is_even_handed" = some (some (.ref a)) ∧ FnAt (HH P) a ["name"] b_is_even_handed :=
 ⟨_, rfl, .of (by kernel_rfl) (by kernel_rfl) (len1 fun _ => rfl)⟩
theorem f_keeps_move_flags (P:Params):∃ a, nsIn (HH P) mainGlobals "keeps_move_flags" = some (some (.ref a)) ∧ FnAt (HH P) a ["name"] b_keeps_move_flags :=
 ⟨_, rfl, .of (by kernel_rfl) (by kernel_rfl) (len1 fun _ => rfl)⟩
theorem f_V___init__ (P:Params):∃ a, findIn (HH P) (.ref 235) "__init__" = some (some (.ref a)) ∧ isFn (HH P) (.ref a) = true ∧ FnAt (HH P) a ["self"] b_V___init__ :=
 ⟨_, rfl, rfl, .of (by kernel_rfl) (by kernel_rfl) (len1 fun _ => rfl)⟩
theorem f_V_fresh (P:Params):∃ a, findIn (HH P) (.ref 235) "fresh" = some (some (.ref a)) ∧ isFn (HH P) (.ref a) = true ∧ FnAt (HH P) a ["self"] b_V_fresh :=
 ⟨_, rfl, rfl, .of (by kernel_rfl) (by kernel_rfl) (len1 fun _ => rfl)⟩
theorem f_V_const (P:Params):∃ a, findIn (HH P) (.ref 235) "const" = some (some (.ref a)) ∧ isFn (HH P) (.ref a) = true ∧ FnAt (HH P) a ["self", "value"] b_V_const :=
 ⟨_, rfl, rfl, .of (by kernel_rfl) (by kernel_rfl) (len2 fun _ _ => rfl)⟩
theorem f_V_of (P:Params):∃ a, findIn (HH P) (.ref 235) "of" = some (some (.ref a)) ∧ isFn (HH P) (.ref a) = true ∧ FnAt (HH P) a ["self", "register"] b_V_of :=
 ⟨_, rfl, rfl, .of (by kernel_rfl) (by kernel_rfl) (len2 fun _ _ => rfl)⟩
theorem f_V_holder (P:Params):∃ a, findIn (HH P) (.ref 235) "holder" = some (some (.ref a)) ∧ isFn (HH P) (.ref a) = true ∧ FnAt (HH P) a ["self", "number", "but"] b_V_holder :=
 ⟨_, rfl, rfl, .of (by kernel_rfl) (by kernel_rfl) (len3 fun _ _ _ => rfl)⟩
theorem f_V_calculated (P:Params):∃ a, findIn (HH P) (.ref 235) "calculated" = some (some (.ref a)) ∧ isFn (HH P) (.ref a) = true ∧ FnAt (HH P) a ["self", "name", "left", "right"] b_V_calculated :=
 ⟨_, rfl, rfl, .of (by kernel_rfl) (by kernel_rfl) (len4 fun _ _ _ _ => rfl)⟩
theorem f_V_forget_words (P:Params):∃ a, findIn (HH P) (.ref 235) "forget_words" = some (some (.ref a)) ∧ isFn (HH P) (.ref a) = true ∧ FnAt (HH P) a ["self", "base", "row"] b_V_forget_words :=
 ⟨_, rfl, rfl, .of (by kernel_rfl) (by kernel_rfl) (len3 fun _ _ _ => rfl)⟩
theorem f_result_number (P:Params):∃ a, nsIn (HH P) mainGlobals "result_number" = some (some (.ref a)) ∧ FnAt (HH P) a ["values", "row"] b_result_number :=
 ⟨_, rfl, .of (by kernel_rfl) (by kernel_rfl) (len2 fun _ _ => rfl)⟩
theorem f_with_immediate (P:Params):∃ a, nsIn (HH P) mainGlobals "with_immediate" = some (some (.ref a)) ∧ FnAt (HH P) a ["values", "row"] b_with_immediate :=
 ⟨_, rfl, .of (by kernel_rfl) (by kernel_rfl) (len2 fun _ _ => rfl)⟩
theorem f_better_row (P:Params):∃ a, nsIn (HH P) mainGlobals "better_row" = some (some (.ref a)) ∧ FnAt (HH P) a ["values", "row", "number", "dead"] b_better_row :=
 ⟨_, rfl, .of (by kernel_rfl) (by kernel_rfl) (len4 fun _ _ _ _ => rfl)⟩
theorem f_load_row (P:Params):∃ a, nsIn (HH P) mainGlobals "load_row" = some (some (.ref a)) ∧ FnAt (HH P) a ["values", "row", "dead"] b_load_row :=
 ⟨_, rfl, .of (by kernel_rfl) (by kernel_rfl) (len3 fun _ _ _ => rfl)⟩
theorem f_store_row (P:Params):∃ a, nsIn (HH P) mainGlobals "store_row" = some (some (.ref a)) ∧ FnAt (HH P) a ["values", "row"] b_store_row :=
 ⟨_, rfl, .of (by kernel_rfl) (by kernel_rfl) (len2 fun _ _ => rfl)⟩
theorem f_fixed_row (P:Params):∃ a, nsIn (HH P) mainGlobals "fixed_row" = some (some (.ref a)) ∧ FnAt (HH P) a ["values", "row"] b_fixed_row :=
 ⟨_, rfl, .of (by kernel_rfl) (by kernel_rfl) (len2 fun _ _ => rfl)⟩
theorem f_dead_flags (P:Params):∃ a, nsIn (HH P) mainGlobals "dead_flags" = some (some (.ref a)) ∧ FnAt (HH P) a ["rows"] b_dead_flags :=
 ⟨_, rfl, .of (by kernel_rfl) (by kernel_rfl) (len1 fun _ => rfl)⟩
theorem f_simplified (P:Params):∃ a, nsIn (HH P) mainGlobals "simplified" = some (some (.ref a)) ∧ FnAt (HH P) a ["rows", "fixed"] b_simplified :=
 ⟨_, rfl, .of (by kernel_rfl) (by kernel_rfl) (len2 fun _ _ => rfl)⟩
theorem f_may_meet (P:Params):∃ a, nsIn (HH P) mainGlobals "may_meet" = some (some (.ref a)) ∧ FnAt (HH P) a ["place", "row", "base"] b_may_meet :=
 ⟨_, rfl, .of (by kernel_rfl) (by kernel_rfl) (len3 fun _ _ _ => rfl)⟩
theorem f_covered_stores (P:Params):∃ a, nsIn (HH P) mainGlobals "covered_stores" = some (some (.ref a)) ∧ FnAt (HH P) a ["rows", "fixed"] b_covered_stores :=
 ⟨_, rfl, .of (by kernel_rfl) (by kernel_rfl) (len2 fun _ _ => rfl)⟩
theorem f_number_run (P:Params):∃ a, nsIn (HH P) mainGlobals "number_run" = some (some (.ref a)) ∧ FnAt (HH P) a ["rows", "fixed"] b_number_run :=
 ⟨_, rfl, .of (by kernel_rfl) (by kernel_rfl) (len2 fun _ _ => rfl)⟩
theorem f__law_figures (P:Params):∃ a, nsIn (HH P) mainGlobals "_law_figures" = some (some (.ref a)) ∧ FnAt (HH P) a ["script"] b__law_figures :=
 ⟨_, rfl, .of (by kernel_rfl) (by kernel_rfl) (len1 fun _ => rfl)⟩
theorem f__law_draw (P:Params):∃ a, nsIn (HH P) mainGlobals "_law_draw" = some (some (.ref a)) ∧ FnAt (HH P) a ["row", "most"] b__law_draw :=
 ⟨_, rfl, .of (by kernel_rfl) (by kernel_rfl) (len2 fun _ _ => rfl)⟩
theorem f__law_calculated (P:Params):∃ a, nsIn (HH P) mainGlobals "_law_calculated" = some (some (.ref a)) ∧ FnAt (HH P) a ["name", "x", "y"] b__law_calculated :=
 ⟨_, rfl, .of (by kernel_rfl) (by kernel_rfl) (len3 fun _ _ _ => rfl)⟩
theorem f__law_step (P:Params):∃ a, nsIn (HH P) mainGlobals "_law_step" = some (some (.ref a)) ∧ FnAt (HH P) a ["state", "step"] b__law_step :=
 ⟨_, rfl, .of (by kernel_rfl) (by kernel_rfl) (len2 fun _ _ => rfl)⟩
theorem f__law_row_of (P:Params):∃ a, nsIn (HH P) mainGlobals "_law_row_of" = some (some (.ref a)) ∧ FnAt (HH P) a ["row"] b__law_row_of :=
 ⟨_, rfl, .of (by kernel_rfl) (by kernel_rfl) (len1 fun _ => rfl)⟩
theorem f__law_holds (P:Params):∃ a, nsIn (HH P) mainGlobals "_law_holds" = some (some (.ref a)) ∧ FnAt (HH P) a ["cond", "told"] b__law_holds :=
 ⟨_, rfl, .of (by kernel_rfl) (by kernel_rfl) (len2 fun _ _ => rfl)⟩
theorem f__law_tidy (P:Params):∃ a, nsIn (HH P) mainGlobals "_law_tidy" = some (some (.ref a)) ∧ FnAt (HH P) a ["state"] b__law_tidy :=
 ⟨_, rfl, .of (by kernel_rfl) (by kernel_rfl) (len1 fun _ => rfl)⟩
theorem f__law_end (P:Params):∃ a, nsIn (HH P) mainGlobals "_law_end" = some (some (.ref a)) ∧ FnAt (HH P) a ["steps", "later_on", "ahead"] b__law_end :=
 ⟨_, rfl, .of (by kernel_rfl) (by kernel_rfl) (len3 fun _ _ _ => rfl)⟩
theorem f__law_plain_wins (P:Params):∃ a, nsIn (HH P) mainGlobals "_law_plain_wins" = some (some (.ref a)) ∧ FnAt (HH P) a ["steps", "later_on"] b__law_plain_wins :=
 ⟨_, rfl, .of (by kernel_rfl) (by kernel_rfl) (len2 fun _ _ => rfl)⟩
theorem f_law (P:Params):∃ a, nsIn (HH P) mainGlobals "law" = some (some (.ref a)) ∧ FnAt (HH P) a ["script"] b_law :=
 ⟨_, rfl, .of (by kernel_rfl) (by kernel_rfl) (len1 fun _ => rfl)⟩
end Mini
end
section
open PySem PySem.W PyProof.Rows Mini
set_option maxRecDepth 100000
namespace Mini
theorem f_flagged (P:Params):∃ a oc od fd osl body, nsIn (HH P) mainGlobals "flagged" = some (some (.ref a)) ∧ (HH P).lookup a = some ⟨oc, od, .func fd, osl⟩ ∧ fd.globals = mainGlobals ∧ fd.builtins = builtinsNs ∧ fd.closure = [] ∧ fd.body = .stmts body ∧
  codeIn (HH P) fd.code fd.qualname = true ∧ fnOk ["result", "c", "v", "h"] fd.scope = true ∧ erSs body (scKinds fd.scope) = some b_flagged ∧ keepIn (HH P) (.ref a) = true ∧
  (∀ (s:Shared), (HH P).In s.heap → ∀ x y z:Value, BindsTo s fd ⟨[x, y, z], []⟩ ((["result", "c", "v", "h"]:List Str).zip [x, y, z, .none])) ∧
  (∀ (s:Shared), (HH P).In s.heap → ∀ x y z u:Value, BindsTo s fd ⟨[x, y, z, u], []⟩ ((["result", "c", "v", "h"]:List Str).zip [x, y, z, u])) :=
 ⟨_, _, _, _, _, _, rfl, rfl, rfl, rfl, rfl, rfl, rfl, by decide +kernel, by rfl, rfl, fun s X x y z => BindsTo.of_defaults rfl (X _ _ rfl) rfl rfl rfl, fun s X x y z u => BindsTo.of_defaults rfl (X _ _ rfl) rfl rfl rfl⟩
theorem cls_facts (P:Params):makesIn (HH P) 235 = true ∧ plainGet (HH P) 235 "count" = true ∧ hasDictIn (HH P) 235 = true ∧ plainOver (HH P) 235 = true ∧
  findIn (HH P) (.ref 235) "__setattr__" = some (some (.builtin "object.__setattr__")) ∧ (∀ x ∈ attrNames, findIn (HH P) (.ref 235) x = some none) ∧ keepIn (HH P) (.ref 235) = true ∧ nsIn (HH P) mainGlobals "Values" = some (some (.ref 235)):=by
 refine ⟨rfl, rfl, rfl, rfl, rfl, ?_, rfl, rfl⟩
 intro x hx
 simp only [attrNames, List.mem_cons, List.not_mem_nil, or_false] at hx
 rcases hx with rfl | rfl | rfl | rfl | rfl | rfl <;> rfl
theorem base_has (P:Params):∃ o, (HH P).lookup 235 = some o:=⟨_, rfl⟩
theorem bnames (P:Params):∀ x:BFn, nsIn (HH P) mainGlobals (bName x) = some none:=by intro x; cases x <;> rfl
theorem rname (P:Params):nsIn (HH P) mainGlobals "range" = some none:=rfl
theorem bboot:∀ x:BFn, bootBuiltins (bName x) = some (bVal x) ∧ bName x ≠ "__name__":=by intro x; cases x <;> decide +kernel
theorem rboot:bootBuiltins "range" = some (.type "range") ∧ ("range":Str) ≠ "__name__":=by decide +kernel
end Mini
end
section
namespace Mini
open PySem PySem.W PyProof.Rows
theorem ints_vrs {h:Heap}:∀ {vs:List Value} {ns:List Int}, IntsAre vs ns → VRs h (ns.map V.int) vs:=by
 intro vs ns x
 induction x with
 | nil => rfl
 | cons _ _ _ ih => exact ⟨_, _, rfl, ⟨_, rfl⟩, ih⟩
noncomputable def lawStore (l:Addr) (ns:List Int):Store:=fun a => if a = l then some (.frozen (ns.map V.int)) else none
theorem law_join {c:Cfg} {Γ:GE} {n:Nat} {fa l:Addr} {cdv:Value} {name:Str} {sc:Scope} {body:List PySem.Stmt} {ys:List S} {vs:List Value} {ns:List Int} {h₁:Heap} {tk₁:Nat} {s₁:Shared} {cellO:Obj} {cn pn:Str} {E:Value → Shared → Prop} {Q':Flow → Shared → Prop}
  (W:CfgOk c) (G:GOk c n Γ) (hn:n ≤ 200) (hb:c.base = s₁.heap) (hL:s₁.heap.IsList l vs.toArray) (hI:IntsAre vs ns)
  (he:erSs body (scKinds sc) = some ys) (hk:sc.kind = .function) (hcs:∀ m, cellsFrom m sc.names [] = [(cn, m)]) (honly:∀ y, sc.names.lookup y = some .cell ∨ sc.names.lookup y = some .free → y = cn) (hp:sc.names.lookup pn = some .local)
  (F:Fr s₁.heap s₁.heap.objs.size h₁ (bindL (envOfC name sc s₁.heap.objs.size fa cdv).kindOf [(pn, .ref l)] fun _ => none))
  (N0:News s₁.heap s₁.heap.objs.size h₁ [(s₁.heap.objs.size + 1, cellO)]) (hcell:cellO.data = .cell none)
  (hw:wSs Γ ys (Loc.set [] pn (.ref l)) (lawStore l ns) fun f _ _ => f = .ret (.bool true))
  (P:∀ h' tk', (∀ b o, s₁.heap.get? b = some o → h'.get? b = some o) → Q' (.ret (.bool true)) { s₁ with heap:=h', toks:=tk' }) :
  wpAny (model c.prog c.w) (callerA.deeper (envOfC name sc s₁.heap.objs.size fa cdv)) (execs body (envOfC name sc s₁.heap.objs.size fa cdv)) Q' E { s₁ with heap:=h₁, toks:=tk₁ }:=by
 obtain ⟨ol, hol, ol1, ol2⟩:=id hL
 have kp:∀ b o, c.base.get? b = some o → h₁.get? b = some o:=fun b o e => F.keep b o (hb ▸ e)
 have mu:∀ b, Mut (lawStore l ns) b = false:=fun b => by unfold Mut lawStore; by_cases q:b = l <;> simp [q]
 have k:Ok c (lawStore l ns) h₁:=by
  refine ⟨fun a o e => ?_, kp, fun a m => (by rw [mu a] at m; cases m), W.sys⟩
  unfold lawStore at e
  split at e
  ·rename_i q; subst q; cases e; exact ⟨vs, ⟨ol, F.keep _ _ hol, ol1, ol2⟩, ints_vrs hI⟩
  ·cases e
 have fresh:∀ b, s₁.heap.objs.size ≤ b → lawStore l ns b = none ∧ c.base.get? b = none:=fun b q => by
  refine ⟨?_, by rw [hb]; exact get?_ge q⟩
  unfold lawStore
  rw [if_neg]
  intro z; subst z; rw [get?_ge q] at hol; cases hol
 have cl:(envOfC name sc s₁.heap.objs.size fa cdv).cells = [(cn, s₁.heap.objs.size + 1)]:=hcs _
 have look:∀ y a, (envOfC name sc s₁.heap.objs.size fa cdv).cells.lookup y = some a → y = cn ∧ a = s₁.heap.objs.size + 1:=fun y a q => by
  rw [cl, List.lookup_cons] at q
  cases z:y == cn with
  | true => rw [z] at q; cases q; exact ⟨eq_of_beq z, rfl⟩
  | false => rw [z] at q; cases q
 have isC:h₁.IsCell (s₁.heap.objs.size + 1) none:=⟨cellO, (N0 _ (List.mem_singleton.mpr rfl)).1, hcell⟩
 have R:EnvR c (envOfC name sc s₁.heap.objs.size fa cdv) (Loc.set [] pn (.ref l)) (lawStore l ns) h₁:=by
  refine ⟨hk, rfl, rfl, ⟨_, F.ns, fun y v hy hk' _ => ?_⟩, fun y hk' => ?_, fresh _ (Nat.le_refl _), fun y a q => ?_, fun y z a _ q1 q2 => by rw [(look y a q1).1, (look z a q2).1]⟩
  ·rw [Loc.get_set] at hy
   by_cases q:y = pn
   ·subst q
    rw [if_pos rfl] at hy
    cases hy
    refine ⟨.ref l, ?_, rfl⟩
    simp only [bindL]
    rw [if_pos (show (envOfC name sc s₁.heap.objs.size fa cdv).kindOf y = some .local from hp)]
    first | rw [if_pos rfl] | rfl | simp
   ·rw [if_neg q] at hy; cases hy
  ·have:=honly y hk'
   subst this
   refine ⟨s₁.heap.objs.size + 1, none, by rw [cl, List.lookup_cons, beq_self_eq_true], isC, fun v hv => ?_⟩
   rw [Loc.get_set] at hv
   by_cases q:y = pn
   ·subst q; rcases hk' with z | z <;> have z':=(show sc.names.lookup y = _ from z) <;> rw [hp] at z' <;> cases z'
   ·rw [if_neg q] at hv; cases hv
  ·obtain ⟨rfl, rfl⟩:=look y a q
   obtain ⟨f1, f2⟩:=fresh (s₁.heap.objs.size + 1) (Nat.le_succ _)
   exact ⟨f1, f2, Nat.succ_ne_self _, none, isC⟩
 have hA:AOk (callerA.deeper (envOfC name sc s₁.heap.objs.size fa cdv)) n:=⟨rfl, by show 1 + claimMargin + 1 + n ≤ 890; have:claimMargin = 300:=rfl; omega, by simp only [Around.deeper_units]; show 4 + _ + 20 * n ≤ 9000; omega⟩
 refine all_b W G body (envOfC name sc s₁.heap.objs.size fa cdv) ys he _ E { s₁ with heap:=h₁, toks:=tk₁ } _ _ _ Q' hA k R hw fun f ρ' σ' fl h' tk' g r fr q => ?_
 subst q
 cases fl <;> first | exact fr.elim | skip
 cases fr
 exact P h' tk' fun b o e => g.ok.base b o (hb ▸ e)
end Mini
end
section
open PySem PySem.W PyProof.Rows Mini
set_option maxRecDepth 100000
namespace Mini
noncomputable abbrev cfgOf (w:World) (h:Heap) (mg mb:Str → Option Value):Cfg:=⟨RowW.prog (OpenRow.toRowW (OpenLaw.row PySem.Challenge.rw_pb0350_01)), w, h, 235, HH w.params, mg, mb⟩
theorem cfg_ok {w:World} {h:Heap} {mg mb:Str → Option Value} {p:Program} {loose:List Str} {mean:ExcName → Option Value} (KX:(HH w.params).In h) (T:Top p loose mean mg mb h):CfgOk (cfgOf w h mg mb):=by
 obtain ⟨c1, c2, c3, c4, c5, c6, c7, c8⟩:=cls_facts w.params
 obtain ⟨o, ho⟩:=base_has w.params
 refine ⟨KX, T.g, T.b, T.nolimit, ⟨235, o, KX _ _ ho, by decide⟩, fun x => ⟨mg_none_of KX T.g (bnames w.params x), ?_⟩, ⟨mg_none_of KX T.g (rname w.params), ?_⟩, c2, c3, c4, c5, c6⟩
 ·show mb (bName x) = _
  rw [T.builtins _ (bboot x).2]; exact (bboot x).1
 ·show mb "range" = _
  rw [T.builtins _ rboot.2]; exact rboot.1
theorem only_of {sc:Scope} {cn:Str} (h:sc.names.all (fun p => !(p.2 == .cell || p.2 == .free) || p.1 == cn) = true):∀ y, sc.names.lookup y = some .cell ∨ sc.names.lookup y = some .free → y = cn:=by
 intro y hy
 rw [List.all_eq_true] at h
 rcases hy with q | q
 ·have:=h _ (lookup_mem q); simpa using this
 ·have:=h _ (lookup_mem q); simpa using this
end Mini
end
section
namespace Mini
open PySem PySem.W PyProof.Rows
theorem ofString_inj {a b:String}:Str.ofString a = Str.ofString b ↔ a = b:=by
 constructor
 ·intro h
  rw [Str.ofString_eq_toList, Str.ofString_eq_toList] at h
  have h1:a.toList.map Char.toNat = b.toList.map Char.toNat:=by simpa using h
  have h2:a.toList = b.toList:=List.map_inj_right (fun x y e => by
   have:x.val = y.val:=UInt32.toNat_inj.mp e
   exact Char.ext this) |>.mp h1
  exact String.toList_inj.mp h2
 ·rintro rfl; rfl
theorem Str_eq {a b:String}:(Str.ofString a = Str.ofString b) = (a = b):=propext ofString_inj
theorem lget_ne {x y:String} {ρ:Loc} {v:V} (h:x ≠ y):(ρ.set (Str.ofString y) v).get (Str.ofString x) = ρ.get (Str.ofString x):=by rw [Loc.get_set, if_neg (by rw [ofString_inj]; exact h)]
theorem lget_eq {x:Str} {ρ:Loc} {v:V}:(ρ.set x v).get x = some v:=by rw [Loc.get_set, if_pos rfl]
section
variable {Γ:GE} {σ:Store} {ρ:Loc} {Q:V → Store → Prop} {T:Bool → Store → Prop} {K:Fl → Loc → Store → Prop} {C:Bool → Prop} {v:V}
theorem g_here {x:Str}:(ρ.set x v).get x = some v:=lget_eq
theorem x_var {x:Str} (g:ρ.get x = some v) (h:Q v σ):wX Γ (.var x) ρ σ Q:=⟨v, g, h⟩
theorem x_lit (h:Q v σ):wX Γ (.lit v) ρ σ Q:=h
theorem x_glob {x:Str} (g:Γ.glob x = some v) (h:Q v σ):wX Γ (.glob x) ρ σ Q:=⟨v, g, h⟩
theorem x_bin {op:Operator} {a b:X} (h:wX Γ a ρ σ fun u σ₁ => wX Γ b ρ σ₁ fun v σ₂ => binOp op u v σ₂ Q):wX Γ (.bin op a b) ρ σ Q:=h
theorem x_neg {i:Int} (h:Q (.int (-i)) σ):wX Γ (.neg (.lit (.int i))) ρ σ Q:=⟨i, rfl, h⟩
theorem x_not {a:X} (h:wX Γ a ρ σ fun u σ₁ => truthW u fun b => Q (.bool (!b)) σ₁):wX Γ (.not_ a) ρ σ Q:=h
theorem x_bool {o:Bool} {xs:List X} (h:wBool Γ o xs ρ σ Q):wX Γ (.boolop o xs) ρ σ Q:=h
theorem x_ite {c a b:X} (h:wT Γ c ρ σ fun t σ₁ => if t = true then wX Γ a ρ σ₁ Q else wX Γ b ρ σ₁ Q):wX Γ (.ite c a b) ρ σ Q:=h
theorem x_cmp {op:CmpOp} {a b:X} (h:wX Γ a ρ σ fun u σ₁ => wX Γ b ρ σ₁ fun v σ₂ => cmpOp op u v σ₂ fun r => Q (.bool r) σ₂):wX Γ (.cmp op a b) ρ σ Q:=h
theorem x_call {f:Str} {sp:Spec} {xs:List X} (hf:Γ.fn f = some sp) (h:wXs Γ xs ρ σ fun vs σ₁ => sp vs σ₁ Q):wX Γ (.call f xs) ρ σ Q:=⟨sp, hf, h⟩
theorem x_bcall {b:BFn} {xs:List X} (h:wXs Γ xs ρ σ fun vs σ₁ => bcallW b vs σ₁ Q):wX Γ (.bcall b xs) ρ σ Q:=h
theorem x_meth {o:X} {f:Str} {xs:List X} (h:wX Γ o ρ σ fun u σ₁ => methKind Γ σ₁ u f fun k => wXs Γ xs ρ σ₁ fun vs σ₂ => methW k u vs σ₂ Q):wX Γ (.meth o f xs) ρ σ Q:=h
theorem x_attr {o:X} {x:Str} (h:wX Γ o ρ σ fun u σ₁ => getAttrW u x σ₁ Q):wX Γ (.attr o x) ρ σ Q:=h
theorem x_sub {o i:X} (h:wX Γ o ρ σ fun u σ₁ => wX Γ i ρ σ₁ fun v σ₂ => getItemW u v σ₂ Q):wX Γ (.sub o i) ρ σ Q:=h
theorem x_slice {o:X} {lo hi:Option X} (h:wX Γ o ρ σ fun u σ₁ => wOpt Γ lo ρ σ₁ fun l σ₂ => wOpt Γ hi ρ σ₂ fun h σ₃ => sliceW u l h σ₃ Q):wX Γ (.slice o lo hi) ρ σ Q:=h
theorem o_none (h:Q .none σ):wOpt Γ none ρ σ Q:=h
theorem o_some {x:X} (h:wX Γ x ρ σ Q):wOpt Γ (some x) ρ σ Q:=h
theorem x_tup {xs:List X} (h:wXs Γ xs ρ σ fun vs σ₁ => Q (.tup vs) σ₁):wX Γ (.tup xs) ρ σ Q:=h
theorem x_list {xs:List X} (h:wXs Γ xs ρ σ fun vs σ₁ => newObj σ₁ (.list vs) Q):wX Γ (.list xs) ρ σ Q:=h
theorem x_dict {ks:List Str} {xs:List X} (h:wPairs Γ xs ks ρ σ fun es σ₁ => newObj σ₁ (.dict (es.foldl (fun d (e:Key × V) => aset d e.1 e.2) [])) Q):wX Γ (.dict ks xs) ρ σ Q:=h
theorem x_empty (h:newObj σ (.dict []) Q):wX Γ (.dict [] []) ρ σ Q:=h
section
variable {L:List V → Store → Prop}
theorem xs_nil (h:L [] σ):wXs Γ [] ρ σ L:=h
theorem xs_cons {x:X} {r:List X} (h:wX Γ x ρ σ fun v σ₁ => wXs Γ r ρ σ₁ fun vs σ₂ => L (v :: vs) σ₂):wXs Γ (x :: r) ρ σ L:=h
end
theorem t_cmp {op:CmpOp} {a b:X} (h:wX Γ a ρ σ fun u σ₁ => wX Γ b ρ σ₁ fun v σ₂ => cmpOp op u v σ₂ fun r => T r σ₂):wT Γ (.cmp op a b) ρ σ T:=h
theorem t_not {a:X} (h:wT Γ a ρ σ fun b σ₁ => T (!b) σ₁):wT Γ (.not_ a) ρ σ T:=h
theorem t_bool {o:Bool} {xs:List X} (h:wTs Γ o xs ρ σ T):wT Γ (.boolop o xs) ρ σ T:=h
theorem t_call {f:Str} {sp:Spec} {xs:List X} (hf:Γ.fn f = some sp) (h:wXs Γ xs ρ σ fun vs σ₁ => sp vs σ₁ fun v σ₂ => truthW v fun b => T b σ₂):wT Γ (.call f xs) ρ σ T:=⟨sp, hf, h⟩
theorem t_var {x:Str} {b:Bool} (g:ρ.get x = some (.bool b)) (h:T b σ):wT Γ (.var x) ρ σ T:=⟨_, g, h⟩
theorem ts_nil {o:Bool} (h:T (!o) σ):wTs Γ o [] ρ σ T:=h
theorem ts_cons {o:Bool} {x:X} {r:List X} (h:wT Γ x ρ σ fun b σ₁ => if b = o then T o σ₁ else wTs Γ o r ρ σ₁ T):wTs Γ o (x :: r) ρ σ T:=h
theorem truth {b:Bool} (h:C b):truthW (.bool b) C:=h
section
variable {A B:Prop} {b:Bool}
theorem ifT (e:b = true) (h:A):if b = true then A else B:=Eq.mpr (if_pos e) h
theorem ifF (e:b = false) (h:B):if b = true then A else B:=Eq.mpr (if_neg (by rw [e]; decide)) h
theorem ifnF (e:b = false) (h:A):if b = false then A else B:=Eq.mpr (if_pos e) h
theorem ifnT (e:b = true) (h:B):if b = false then A else B:=Eq.mpr (if_neg (by rw [e]; decide)) h
theorem ifC (h1:b = true → A) (h2:b = false → B):if b = true then A else B:=by
 cases b
 ·exact ifF rfl (h2 rfl)
 ·exact ifT rfl (h1 rfl)
theorem ifnC (h1:b = false → A) (h2:b = true → B):if b = false then A else B:=by
 cases b
 ·exact ifnF rfl (h1 rfl)
 ·exact ifnT rfl (h2 rfl)
variable {p:Prop} [Decidable p]
theorem ifD (h1:p → A) (h2:¬ p → B):if decide p = true then A else B:=ifC (fun z => h1 (of_decide_eq_true z)) fun z => h2 (of_decide_eq_false z)
theorem ifnD (h1:¬ p → A) (h2:p → B):if decide p = false then A else B:=ifnC (fun z => h1 (of_decide_eq_false z)) fun z => h2 (of_decide_eq_true z)
end
theorem deq_str {n:Nat} {a b:Str}:deqV σ n (.str a) (.str b) = some (decide (a = b)):=by cases n <;> rfl
theorem deq_int {n:Nat} {a b:Int}:deqV σ n (.int a) (.int b) = some (decide (a = b)):=by cases n <;> rfl
theorem deq_lists {n:Nat} {a b:Addr} {xs ys:List V} (ea:σ a = some (.list xs)) (eb:σ b = some (.list ys)):deqV σ n (.ref a) (.ref b) = deqL xs ys:=by
 have:∀ d, deqR σ d a b = deqL xs ys:=fun d => by unfold deqR; rw [ea, eb]
 cases n with
 | zero => exact this _
 | succ n => exact this _
theorem eqA_int {n:Nat} {a b:Int}:eqA n (.int a) (.int b) = some (decide (a = b)):=by cases n <;> rfl
theorem c_eqs {a b:Str} (h:C (decide (a = b))):cmpOp .Eq (.str a) (.str b) σ C:=⟨_, deq_str, h⟩
theorem c_eqi {a b:Int} (h:C (decide (a = b))):cmpOp .Eq (.int a) (.int b) σ C:=⟨_, deq_int, h⟩
theorem c_eq {a b:V} {r:Bool} (e:deqV σ 0 a b = some r) (h:C r):cmpOp .Eq a b σ C:=⟨_, e, h⟩
theorem c_nei {a b:Int} (h:C (!decide (a = b))):cmpOp .NotEq (.int a) (.int b) σ C:=.inl ⟨_, deq_int, h⟩
theorem c_nes {a b:Str} (h:C (!decide (a = b))):cmpOp .NotEq (.str a) (.str b) σ C:=.inl ⟨_, deq_str, h⟩
theorem c_ne {a b:V} {r:Bool} (e:deqV σ 0 a b = some r) (h:C (!r)):cmpOp .NotEq a b σ C:=.inl ⟨_, e, h⟩
theorem c_net {xs ys:List V} {r:Bool} (e:deqT σ xs ys = some r) (h:C (!r)):cmpOp .NotEq (.tup xs) (.tup ys) σ C:=.inr ⟨_, _, _, rfl, rfl, e, h⟩
theorem c_lt {a b:Int} (h:C (decide (a < b))):cmpOp .Lt (.int a) (.int b) σ C:=h
theorem c_le {a b:Int} (h:C (decide (a ≤ b))):cmpOp .LtE (.int a) (.int b) σ C:=h
theorem c_gt {a b:Int} (h:C (decide (a > b))):cmpOp .Gt (.int a) (.int b) σ C:=h
theorem c_ge {a b:Int} (h:C (decide (a ≥ b))):cmpOp .GtE (.int a) (.int b) σ C:=h
theorem c_is {a:V} (h:C a.isNone):cmpOp .Is a .none σ C:=h
theorem c_isnot {a:V} (h:C (!a.isNone)):cmpOp .IsNot a .none σ C:=h
theorem c_in {a b:V} (h:isIn σ a b C):cmpOp .In a b σ C:=h
theorem c_notin {a b:V} (h:isIn σ a b fun r => C (!r)):cmpOp .NotIn a b σ C:=h
theorem strs_all (ss:List String):strsOf (ss.map fun (s:String) => V.str (Str.ofString s)) = some (ss.map Str.ofString):=by
 induction ss with
 | nil => rfl
 | cons s ss ih => show (strsOf (ss.map fun (s:String) => V.str (Str.ofString s))).map _ = _; rw [ih]; rfl
theorem in_tup {t:Str} {ss:List String} (h:C ((ss.map Str.ofString).contains t)):isIn σ (.str t) (.tup (ss.map fun (s:String) => V.str (Str.ofString s))) C:=⟨t, _, rfl, strs_all ss, h⟩
theorem lits:∀ (ss:List String) {ρ:Loc} {σ:Store} {L:List V → Store → Prop}, L (ss.map fun (s:String) => V.str (Str.ofString s)) σ → wXs Γ (ss.map fun (s:String) => X.lit (.str (Str.ofString s))) ρ σ L:=by
 intro ss
 induction ss with
 | nil => intro ρ σ L h; exact h
 | cons s ss ih => intro ρ σ L h; exact xs_cons (x_lit (ih h))
theorem x_strs {ss:List String} (h:Q (.tup (ss.map fun (s:String) => V.str (Str.ofString s))) σ):wX Γ (.tup (ss.map fun (s:String) => X.lit (.str (Str.ofString s)))) ρ σ Q:=lits ss h
section
variable {a b:Int}
theorem n_add (h:Q (.int (a + b)) σ):binOp .Add (.int a) (.int b) σ Q:=h
theorem n_sub (h:Q (.int (a - b)) σ):binOp .Sub (.int a) (.int b) σ Q:=h
theorem n_mul (m:MulOk a b) (h:Q (.int (a * b)) σ):binOp .Mult (.int a) (.int b) σ Q:=⟨m, h⟩
theorem n_div (n:b ≠ 0 ∧ b.natAbs < 2 ^ 64) (h:Q (.int (a.fdiv b)) σ):binOp .FloorDiv (.int a) (.int b) σ Q:=⟨n.1, n.2, h⟩
theorem n_mod (n:b ≠ 0) (h:Q (.int (a.fmod b)) σ):binOp .Mod (.int a) (.int b) σ Q:=⟨n, h⟩
theorem n_pow (n:0 ≤ b ∧ b ≤ 1000 ∧ a.natAbs < 2 ^ 64) (h:Q (.int (a ^ b.toNat)) σ):binOp .Pow (.int a) (.int b) σ Q:=⟨n.1, n.2.1, n.2.2, h⟩
theorem n_shl (n:0 ≤ b ∧ b ≤ 1000 ∧ a.natAbs < 2 ^ 64) (h:Q (.int (a * 2 ^ b.toNat)) σ):binOp .LShift (.int a) (.int b) σ Q:=⟨n.1, n.2.1, n.2.2, h⟩
theorem n_shr (n:0 ≤ b) (h:Q (.int (a.fdiv (2 ^ b.toNat))) σ):binOp .RShift (.int a) (.int b) σ Q:=⟨n, h⟩
theorem n_and (h:Q (.int (Builtin.bitAnd a b)) σ):binOp .BitAnd (.int a) (.int b) σ Q:=h
theorem n_or (h:Q (.int (Builtin.bitOr a b)) σ):binOp .BitOr (.int a) (.int b) σ Q:=h
theorem n_xor (h:Q (.int (Builtin.bitXor a b)) σ):binOp .BitXor (.int a) (.int b) σ Q:=h
end
section
variable {a b c d:V}
theorem i0 (h:Q a σ):getItemW (.tup [a, b, c, d]) (.int 0) σ Q:=⟨0, a, rfl, rfl, h⟩
theorem i1 (h:Q b σ):getItemW (.tup [a, b, c, d]) (.int 1) σ Q:=⟨1, b, rfl, rfl, h⟩
theorem i2 (h:Q c σ):getItemW (.tup [a, b, c, d]) (.int 2) σ Q:=⟨2, c, rfl, rfl, h⟩
theorem i3 (h:Q d σ):getItemW (.tup [a, b, c, d]) (.int 3) σ Q:=⟨3, d, rfl, rfl, h⟩
theorem p0 (h:Q a σ):getItemW (.tup [a, b]) (.int 0) σ Q:=⟨0, a, rfl, rfl, h⟩
theorem p1 (h:Q b σ):getItemW (.tup [a, b]) (.int 1) σ Q:=⟨1, b, rfl, rfl, h⟩
variable {x:Str}
theorem v0 (g:ρ.get x = some (.tup [a, b, c, d])) (h:Q a σ):wX Γ (.sub (.var x) (.lit (.int 0))) ρ σ Q:=⟨_, g, i0 h⟩
theorem v1 (g:ρ.get x = some (.tup [a, b, c, d])) (h:Q b σ):wX Γ (.sub (.var x) (.lit (.int 1))) ρ σ Q:=⟨_, g, i1 h⟩
theorem v2 (g:ρ.get x = some (.tup [a, b, c, d])) (h:Q c σ):wX Γ (.sub (.var x) (.lit (.int 2))) ρ σ Q:=⟨_, g, i2 h⟩
theorem v3 (g:ρ.get x = some (.tup [a, b, c, d])) (h:Q d σ):wX Γ (.sub (.var x) (.lit (.int 3))) ρ σ Q:=⟨_, g, i3 h⟩
theorem w0 (g:ρ.get x = some (.tup [a, b])) (h:Q a σ):wX Γ (.sub (.var x) (.lit (.int 0))) ρ σ Q:=⟨_, g, p0 h⟩
theorem w1' (g:ρ.get x = some (.tup [a, b])) (h:Q b σ):wX Γ (.sub (.var x) (.lit (.int 1))) ρ σ Q:=⟨_, g, p1 h⟩
end
noncomputable def seqK (Γ:GE) (r:List S) (K:Fl → Loc → Store → Prop):Fl → Loc → Store → Prop:=fun f ρ₁ σ₁ => match f with
 | .next => wSs Γ r ρ₁ σ₁ K
 | f => K f ρ₁ σ₁
section
variable {r:List S} {x:Str} {e:X}
theorem s_nil (h:K .next ρ σ):wSs Γ [] ρ σ K:=h
theorem s_ret (h:wX Γ e ρ σ fun v σ₁ => K (.ret v) ρ σ₁):wSs Γ (.ret e :: r) ρ σ K:=h
theorem s_assign (h:wX Γ e ρ σ fun v σ₁ => wSs Γ r (ρ.set x v) σ₁ K):wSs Γ (.assign x e :: r) ρ σ K:=h
theorem s_expr (h:wX Γ e ρ σ fun v σ₁ => v = .none ∧ wSs Γ r ρ σ₁ K):wSs Γ (.expr e :: r) ρ σ K:=h
theorem s_ite {c:X} {a b:List S} (h:wT Γ c ρ σ fun t σ₁ => if t = true then wSs Γ a ρ σ₁ (seqK Γ r K) else wSs Γ b ρ σ₁ (seqK Γ r K)):wSs Γ (.ite c a b :: r) ρ σ K:=h
theorem s_if {c:X} {a:List S} (h:wT Γ c ρ σ fun t σ₁ => if t = true then wSs Γ a ρ σ₁ (seqK Γ r K) else wSs Γ r ρ σ₁ K):wSs Γ (.ite c a [] :: r) ρ σ K:=h
theorem s_cont (h:K .cont ρ σ):wSs Γ (.cont :: r) ρ σ K:=h
theorem s_sub {o i:X} (h:wX Γ e ρ σ fun v σ₁ => wX Γ o ρ σ₁ fun u σ₂ => wX Γ i ρ σ₂ fun j σ₃ => setItemW u j v σ₃ fun σ₄ => wSs Γ r ρ σ₄ K):wSs Γ (.setSub o i e :: r) ρ σ K:=h
theorem s_attr {o:X} (h:wX Γ e ρ σ fun v σ₁ => wX Γ o ρ σ₁ fun u σ₂ => setAttrW u x v σ₂ fun σ₃ => wSs Γ r ρ σ₃ K):wSs Γ (.setAttr o x e :: r) ρ σ K:=h
theorem s_unpack {xs:List Str} (h:wX Γ e ρ σ fun v σ₁ => seqVal v σ₁ fun vs => ∃ ρ', Loc.setAll ρ xs vs = some ρ' ∧ wSs Γ r ρ' σ₁ K):wSs Γ (.unpack xs e :: r) ρ σ K:=h
theorem s_for {it:X} {bd:List S} (h:wIter Γ it ρ σ fun items guard σ₁ unf => forLoop guard (fun ρ' σ' Q' => wSs Γ bd ρ' σ' Q') x items ρ σ₁ fun f ρ' σ' => seqK Γ r K f ρ' (unf σ')):wSs Γ (.for_ x it bd :: r) ρ σ K:=h
end
theorem bo2 {o:Bool} {x y:X} (h:wX Γ x ρ σ fun v σ₁ => truthW v fun b => if b = o then Q v σ₁ else wX Γ y ρ σ₁ Q):wBool Γ o [x, y] ρ σ Q:=h
theorem s_name {x:Str} {nm t:Str} {r a:List S} (g:ρ.get x = some (.str nm)) (h1:nm = t → wSs Γ a ρ σ (seqK Γ r K)) (h2:nm ≠ t → wSs Γ r ρ σ K):wSs Γ (.ite (.cmp .Eq (.var x) (.lit (.str t))) a [] :: r) ρ σ K :=
 s_if (t_cmp (x_var g (x_lit (c_eqs (ifD h1 h2)))))
theorem g_th {x y:String} {u:V} (h:ρ.get (Str.ofString x) = some v) (n:x ≠ y:=by decide):(ρ.set (Str.ofString y) u).get (Str.ofString x) = some v:=(lget_ne n).trans h
theorem body_intro {ps:List Str} {ys:List S} {vs:List V} {ρ:Loc} (h:Loc.setAll [] ps vs = some ρ)
  (hw:wSs Γ ys ρ σ fun f _ σ' => match f with | .ret v => Q v σ' | .next => Q .none σ' | .cont => False):wBody Γ ps ys vs σ Q:=⟨ρ, h, hw⟩
end
section
variable {σ:Store} {Γ:GE} {ρ:Loc} {Q:V → Store → Prop} {Kd:MKind → Prop}
section
variable {body:Loc → Store → (Fl → Loc → Store → Prop) → Prop} {x:Str} {K:Fl → Loc → Store → Prop} {guard:Store → Prop}
theorem fl_nil (g:guard σ) (h:K .next ρ σ):forLoop guard body x [] ρ σ K:=⟨g, h⟩
theorem fl_cons {v:V} {vs:List V} (g:guard σ) (h:body (ρ.set x v) σ fun f ρ₁ σ₁ => match f with | .ret r => guard σ₁ ∧ K (.ret r) ρ₁ σ₁ | _ => forLoop guard body x vs ρ₁ σ₁ K):forLoop guard body x (v :: vs) ρ σ K:=⟨g, h⟩
end
theorem for_seq {body:Loc → Store → (Fl → Loc → Store → Prop) → Prop} {x:Str} {f:Nat → V} {n:Nat} {K:Fl → Loc → Store → Prop} (I:Nat → Loc → Store → Prop)
  (step:∀ j ρ σ (K':Fl → Loc → Store → Prop), j < n → I j ρ σ → (∀ r ρ1 σ1, K (.ret r) ρ1 σ1 → K' (.ret r) ρ1 σ1) → (∀ ρ1 σ1, I (j + 1) ρ1 σ1 → K' .next ρ1 σ1) → (∀ ρ1 σ1, I (j + 1) ρ1 σ1 → K' .cont ρ1 σ1) → body (ρ.set x (f j)) σ K')
  (fin:∀ ρ σ, I n ρ σ → K .next ρ σ):∀ (m j:Nat) (ρ:Loc) (σ:Store), j + m = n → I j ρ σ → forLoop (fun _ => True) body x ((List.range' j m).map f) ρ σ K:=by
 intro m
 induction m with
 | zero =>
  intro j ρ σ h hi
  obtain rfl:j = n:=h
  exact ⟨trivial, fin ρ σ hi⟩
 | succ m ih =>
  intro j ρ σ h hi
  have h':j + 1 + m = n:=by rw [Nat.add_right_comm]; exact h
  rw [List.range'_succ, List.map_cons]
  exact fl_cons trivial (step j ρ σ _ (Nat.lt_of_lt_of_eq (Nat.lt_add_of_pos_right (Nat.succ_pos m)) h) hi (fun r ρ1 σ1 q => ⟨trivial, q⟩) (fun ρ1 σ1 q => ih (j + 1) ρ1 σ1 h' q) fun ρ1 σ1 q => ih (j + 1) ρ1 σ1 h' q)
theorem for_range {body:Loc → Store → (Fl → Loc → Store → Prop) → Prop} {x:Str} {f:Nat → V} {n:Nat} {K:Fl → Loc → Store → Prop} {ρ:Loc} {σ:Store} (I:Nat → Loc → Store → Prop) (h0:I 0 ρ σ)
  (step:∀ j ρ σ (K':Fl → Loc → Store → Prop), j < n → I j ρ σ → (∀ r ρ1 σ1, K (.ret r) ρ1 σ1 → K' (.ret r) ρ1 σ1) → (∀ ρ1 σ1, I (j + 1) ρ1 σ1 → K' .next ρ1 σ1) → (∀ ρ1 σ1, I (j + 1) ρ1 σ1 → K' .cont ρ1 σ1) → body (ρ.set x (f j)) σ K')
  (fin:∀ ρ σ, I n ρ σ → K .next ρ σ):forLoop (fun _ => True) body x ((List.range n).map f) ρ σ K:=by
 rw [List.range_eq_range']
 exact for_seq I step fin n 0 ρ σ (Nat.zero_add n) h0
theorem range_up {n:Nat}:rangeInts 0 n 1 = (List.range n).map (fun (i:Nat) => V.int i):=by
 unfold rangeInts
 simp
theorem range_down {n:Nat}:rangeInts ((n:Int) - 1) (-1) (-1) = (List.range n).map (fun (i:Nat) => V.int ((n:Int) - 1 - i)):=by
 unfold rangeInts
 have:((n:Int) - 1 - -1).toNat = n:=by omega
 rw [if_neg (by decide), this]
 refine List.map_congr_left fun i _ => ?_
 congr 1; omega
section
variable {IQ:ItQ} {R:List V → Prop} {a b:Int}
theorem i_range {xs:List X} (h:wXs Γ xs ρ σ fun vs σ₁ => rangeW vs fun items => IQ items (fun _ => True) σ₁ id):wIter Γ (.range xs) ρ σ IQ:=h
theorem i_slice {o:X} {lo hi:Option X} (h:wX Γ o ρ σ fun u σ₁ => wOpt Γ lo ρ σ₁ fun l σ₂ => wOpt Γ hi ρ σ₂ fun h σ₃ => sliceW u l h σ₃ fun v σ₄ => iterVal v σ₄ IQ):wIter Γ (.slice o lo hi) ρ σ IQ:=h
theorem i_var {x:Str} {v:V} (g:ρ.get x = some v) (h:iterVal v σ IQ):wIter Γ (.var x) ρ σ IQ:=⟨v, g, h⟩
theorem r_one (h1:-100000 ≤ b ∧ b ≤ 100000) (h:R (rangeInts 0 b 1)):rangeW [.int b] R:=⟨h1.1, h1.2, h⟩
theorem r_two (h1:-100000 ≤ a ∧ a ≤ 100000) (h2:-100000 ≤ b ∧ b ≤ 100000) (h:R (rangeInts a b 1)):rangeW [.int a, .int b] R:=⟨h1.1, h1.2, h2.1, h2.2, h⟩
theorem r_down (h1:-100000 ≤ a ∧ a ≤ 100000) (h2:-100000 ≤ b ∧ b ≤ 100000) (h:R (rangeInts a b (-1))):rangeW [.int a, .int b, .int (-1)] R:=⟨h1.1, h1.2, h2.1, h2.2, rfl, h⟩
theorem nat_rng {n:Nat} (h:n ≤ 100000):-100000 ≤ (n:Int) ∧ (n:Int) ≤ 100000:=by omega
theorem r_nat {n:Nat} (h1:n ≤ 100000) (h:R ((List.range n).map fun (i:Nat) => V.int i)):rangeW [.int n] R:=r_one (nat_rng h1) (by rw [range_up]; exact h)
theorem it_list {d:Addr} {xs:List V} (e:σ d = some (.list xs)) (hl:xs.length ≤ 100000) (h:IQ xs (fun σ' => σ' d = some (.list xs)) σ id):iterVal (.ref d) σ IQ:=by
 unfold iterVal; dsimp only; rw [e]; exact ⟨hl, h⟩
theorem it_dict {d:Addr} {es:List (Key × V)} (e:σ d = some (.dict es)) (hl:es.length ≤ 100000) (hk:(∀ e ∈ es, e.1.isTp = false) ∨ ∀ e ∈ es, e.1.isTp = true) (h:IQ (es.map fun e => e.1.v) (fun σ' => σ' d = some (.fdict es)) (σ.set d (.fdict es)) fun σ' => σ'.set d (.dict es)):iterVal (.ref d) σ IQ:=by
 unfold iterVal; dsimp only; rw [e]; exact ⟨hl, hk, h⟩
end
theorem pyIdx_nat {n j:Nat} (hl:n ≤ 100000) (hj:j < n):pyIdx n (j:Int) = some j:=by
 unfold pyIdx
 rw [if_pos ⟨Int.natCast_nonneg j, Int.ofNat_lt.mpr hj, by omega⟩]; rfl
theorem lst_get {a:Addr} {xs:List V} {i:Int} {j:Nat} {v:V} (e:σ a = some (.list xs)) (hi:i = j) (hl:xs.length < 2 ^ 62) (hj:xs[j]? = some v) (q:Q v σ):getItemW (.ref a) (.int i) σ Q:=by
 unfold getItemW
 simp only [e]
 have:j < xs.length:=(List.getElem?_eq_some_iff.mp hj).1
 exact ⟨i, j, v, rfl, by unfold pyIdx; rw [if_pos (by omega)]; congr 1; omega, hj, q⟩
theorem lst_at {a:Addr} {xs:List V} {j:Nat} {v:V} (e:σ a = some (.list xs)) (hl:xs.length ≤ 100000) (hj:xs[j]? = some v) (q:Q v σ):getItemW (.ref a) (.int j) σ Q :=
 lst_get e rfl (Nat.lt_of_le_of_lt hl (by decide)) hj q
theorem lst_set {a:Addr} {xs:List V} {i:Int} {j:Nat} {v:V} {Q:Store → Prop} (e:σ a = some (.list xs)) (hi:i = j) (hl:xs.length ≤ 100000) (hj:j < xs.length) (q:Q (σ.set a (.list (xs.set j v)))):setItemW (.ref a) (.int i) v σ Q:=by
 subst hi
 unfold setItemW
 dsimp only
 rw [e]
 exact ⟨_, j, rfl, hl, pyIdx_nat hl hj, q⟩
theorem lst_len {a:Addr} {xs:List V} (e:σ a = some (.list xs)) (hl:xs.length ≤ 100000) (q:Q (.int xs.length) σ):bcallW .len [.ref a] σ Q:=by
 show (match σ a with | some (.list xs) => _ | some (.dict es) => _ | _ => _)
 rw [e]; exact ⟨hl, q⟩
theorem dct_len {a:Addr} {es:List (Key × V)} (e:σ a = some (.dict es)) (hl:es.length ≤ 100000) (ht:∀ e ∈ es, e.1.isTp = false) (q:Q (.int es.length) σ):bcallW .len [.ref a] σ Q:=by
 show (match σ a with | some (.list xs) => _ | some (.dict es) => _ | _ => _)
 rw [e]; exact ⟨hl, ht, q⟩
theorem lst_copy {a:Addr} {xs:List V} (e:σ a = some (.list xs)) (hl:xs.length ≤ 100000) (q:newObj σ (.list xs) Q):bcallW .list [.ref a] σ Q:=by
 show (match σ a with | some (.list xs) => _ | _ => _)
 rw [e]; exact ⟨hl, q⟩
theorem lst_sum {a:Addr} {xs:List V} {ns:List Int} (e:σ a = some (.list xs)) (hn:intsOf xs = some ns) (hl:xs.length ≤ 1000) (hb:∀ n ∈ ns, 0 ≤ n ∧ n < 2 ^ 40) (q:Q (.int ns.sum) σ):bcallW .sum [.ref a] σ Q:=by
 show (match σ a with | some (.list xs) => _ | _ => _)
 rw [e]; exact ⟨ns, hn, hl, hb, q⟩
theorem dict_kind {d:Addr} {es:List (Key × V)} {K:MKind → Prop} (e:σ d = some (.dict es)) (q:K .get):methKind Γ σ (.ref d) "get" K:=by
 unfold methKind
 simp only [e, if_true]
 exact q
section
variable {d:Addr} {xs:List V}
theorem lst_kind (e:σ d = some (.list xs)) (q:Kd .append):methKind Γ σ (.ref d) "append" Kd:=by
 unfold methKind
 simp only [e, if_true]
 exact q
theorem lst_kpop (e:σ d = some (.list xs)) (q:Kd .pop):methKind Γ σ (.ref d) "pop" Kd:=by
 unfold methKind
 simp only [e, Str_eq, String.reduceEq, if_false, if_true]
 exact q
theorem lst_krev (e:σ d = some (.list xs)) (q:Kd .reverse):methKind Γ σ (.ref d) "reverse" Kd:=by
 unfold methKind
 simp only [e, Str_eq, String.reduceEq, if_false, if_true]
 exact q
theorem lst_kcount (e:σ d = some (.list xs)) (q:Kd .count):methKind Γ σ (.ref d) "count" Kd:=by
 unfold methKind
 simp only [e, Str_eq, String.reduceEq, if_false, if_true]
 exact q
theorem lst_append {v:V} (e:σ d = some (.list xs)) (hl:xs.length ≤ 100000) (q:Q .none (σ.set d (.list (xs ++ [v])))):methW .append (.ref d) [v] σ Q:=⟨xs, e, hl, q⟩
theorem lst_pop {v:V} (e:σ d = some (.list (xs ++ [v]))) (hl:xs.length ≤ 100000) (q:Q v (σ.set d (.list xs))):methW .pop (.ref d) [] σ Q:=⟨xs, v, e, hl, q⟩
theorem lst_rev (e:σ d = some (.list xs)) (hl:xs.length ≤ 100000) (q:Q .none (σ.set d (.list xs.reverse))):methW .reverse (.ref d) [] σ Q:=⟨xs, e, hl, q⟩
theorem lst_slice {n:Nat} (hn:n ≤ 1000) (e:σ d = some (.list xs)) (hl:xs.length ≤ 100000) (q:newObj σ (.list (xs.take n)) Q):sliceW (.ref d) .none (.int n) σ Q:=⟨hn, .inl ⟨xs, e, hl, q⟩⟩
theorem frz_slice {n:Nat} (hn:n ≤ 1000) (e:σ d = some (.frozen xs)) (hl:xs.length ≤ 100000) (q:newObj σ (.list (xs.take n)) Q):sliceW (.ref d) .none (.int n) σ Q:=⟨hn, .inr ⟨xs, e, hl, q⟩⟩
end
theorem set_set {a:Addr} {o o':MObj}:(σ.set a o).set a o' = σ.set a o':=by
 funext y
 by_cases q:y = a
 ·subst q; rw [set_eq, set_eq]
 ·rw [set_ne q, set_ne q, set_ne q]
theorem set_same {a:Addr} {o:MObj} (e:σ a = some o):σ.set a o = σ:=by
 funext y
 by_cases q:y = a
 ·subst q; rw [set_eq, e]
 ·rw [set_ne q]
theorem set_comm {a b:Addr} {o o':MObj} (n:a ≠ b):(σ.set a o).set b o' = (σ.set b o').set a o:=by
 funext y
 by_cases q:y = b
 ·subst q; rw [set_eq, set_ne (Ne.symm n), set_eq]
 ·rw [set_ne q]
  by_cases q2:y = a
  ·subst q2; rw [set_eq, set_eq]
  ·rw [set_ne q2, set_ne q2, set_ne q]
theorem ne_new {a b:Addr} {o:MObj} (e:σ a = some o) (hb:σ b = none):a ≠ b:=fun z => by rw [z, hb] at e; exact nomatch e
theorem at_new {a b:Addr} {o o':MObj} (e:σ a = some o) (hb:σ b = none):(σ.set b o') a = some o:=(set_ne (ne_new e hb)).trans e
theorem free_of {a b:Addr} {o:MObj} (h:(σ.set a o) b = none):b ≠ a ∧ σ b = none:=by
 have n:b ≠ a:=fun z => by rw [z, set_eq] at h; exact nomatch h
 exact ⟨n, (set_ne n).symm.trans h⟩
theorem n_mod' {a b:Int} (n:0 < b) (h:Q (.int (a % b)) σ):binOp .Mod (.int a) (.int b) σ Q:=n_mod (Int.ne_of_gt n) (by rw [Int.fmod_eq_emod_of_nonneg _ (Int.le_of_lt n)]; exact h)
theorem n_div' {a b:Int} (n:0 < b ∧ b.natAbs < 2 ^ 64) (h:Q (.int (a / b)) σ):binOp .FloorDiv (.int a) (.int b) σ Q:=n_div ⟨Int.ne_of_gt n.1, n.2⟩ (by rw [Int.fdiv_eq_ediv_of_nonneg _ (Int.le_of_lt n.1)]; exact h)
theorem b_abs {i:Int} (h:Q (.int i.natAbs) σ):bcallW .abs [.int i] σ Q:=h
end
end Mini
end
section
namespace Mini
open PySem PySem.W PyProof.Rows
section
variable {Γ:GE}
noncomputable abbrev RetK (Q:V → Store → Prop):Fl → Loc → Store → Prop:=fun f _ σ' => match f with | .ret v => Q v σ' | .next => Q .none σ' | .cont => False
noncomputable def Ext (σ σ':Store):Prop:=∀ a o, σ a = some o → σ' a = some o
theorem Ext.refl (σ:Store):Ext σ σ:=fun _ _ e => e
theorem Ext.trans {σ σ' σ'':Store} (h:Ext σ σ') (h':Ext σ' σ''):Ext σ σ'':=fun a o e => h' a o (h a o e)
theorem Ext.new {σ:Store} {b:Addr} {o:MObj} (h:σ b = none):Ext σ (σ.set b o):=fun a o' e => by
 rw [set_ne (fun z => by subst z; rw [h] at e; cases e)]; exact e
noncomputable def Rg (x:Int):Prop:=0 ≤ x ∧ x < 4294967296
noncomputable def sgn (x:Int):Int:=if x ≥ 2147483648 then x - 4294967296 else x
theorem sgn_abs {x:Int} (h:Rg x):(sgn x).natAbs < 2 ^ 64:=by unfold sgn; obtain ⟨h0, h1⟩:=h; split <;> omega
noncomputable def sp_to_signed:Spec:=fun vs σ Q => ∃ x, vs = [.int x] ∧ Rg x ∧ Q (.int (sgn x)) σ
theorem band_sign {x:Int} (h:Rg x):x - 2 * Builtin.bitAnd x 2147483648 = sgn x:=by
 obtain ⟨h0, h1⟩:=h
 have e:Builtin.bitAnd x 2147483648 = if x ≥ 2147483648 then 2147483648 else 0:=by
  rw [bitAnd_pp h0 (by decide)]
  obtain ⟨m, rfl⟩:=Int.eq_ofNat_of_zero_le h0
  have hm:m < 2 ^ 32:=by omega
  have bit:m.testBit 31 = decide (m ≥ 2147483648):=by
   rw [Nat.testBit_eq_decide_div_mod_eq]
   congr 1
   simp only [eq_iff_iff]
   omega
  have:m &&& 2 ^ 31 = if m ≥ 2147483648 then 2147483648 else 0:=by
   apply Nat.eq_of_testBit_eq
   intro i
   rw [Nat.testBit_and]
   by_cases hi:i = 31
   ·subst hi
    rw [bit]
    by_cases hge:m ≥ 2147483648
    ·rw [if_pos hge, decide_eq_true hge]; decide
    ·rw [if_neg hge, decide_eq_false hge]; simp
   ·have z:(2 ^ 31).testBit i = false:=by rw [Nat.testBit_two_pow]; exact decide_eq_false (fun q => hi q.symm)
    rw [z, Bool.and_false]
    by_cases hge:m ≥ 2147483648
    ·rw [if_pos hge]; exact z.symm
    ·rw [if_neg hge]; simp
  show ((m &&& 2 ^ 31:Nat):Int) = _
  rw [this]
  split <;> split <;> first | rfl | omega
 rw [e]
 unfold sgn
 split <;> omega
theorem ok_to_signed (hs:Γ.glob "SIGN" = some (.int 2147483648)) {vs:List V} {σ:Store} {Q:V → Store → Prop} (h:sp_to_signed vs σ Q):wBody Γ ["x"] b_to_signed vs σ Q:=by
 obtain ⟨x, rfl, h0, hq⟩:=h
 refine body_intro rfl (s_ret (x_bin (x_var g_here (x_bin (x_lit (x_bin (x_var g_here (x_glob hs (n_and (n_mul (.inl (by decide)) (n_sub ?_)))))))))))
 rw [band_sign h0]; exact hq
noncomputable def sp_flagged:Spec:=fun vs σ Q => ∃ r c v, (vs = [.int r, c, v] ∨ ∃ h, vs = [.int r, c, v, h]) ∧ ∀ rest, rest.length = 5 → Q (.tup (.int r :: rest)) σ
theorem ok_flagged {vs:List V} {σ:Store} {Q:V → Store → Prop} {r:Int} {c v h:V} (hq:∀ rest, rest.length = 5 → Q (.tup (.int r :: rest)) σ):wBody Γ ["result", "c", "v", "h"] b_flagged [.int r, c, v, h] σ Q:=by
 have g:(((((Loc.set [] "result" (.int r)).set "c" c).set "v" v).set "h" h)).get "result" = some (.int r):=g_th (g_th (g_th g_here))
 refine body_intro rfl ?_
 refine s_ret <| x_tup <| xs_cons <| x_var g <| xs_cons <| x_bin <| x_var g <| x_lit <| n_shr (by decide) <| xs_cons <| x_ite <| t_cmp <| x_var g <| x_lit <| c_eqi ?_
 have t:∀ u:V, wXs Γ [(.var "c"), (.var "v"), (.var "h")] (((((Loc.set [] "result" (.int r)).set "c" c).set "v" v).set "h" h)) σ fun vs σ₁ => Q (.tup (.int r :: .int (r.fdiv (2 ^ (31:Int).toNat)) :: u :: vs)) σ₁:=fun u => xs_cons <| x_var (g_th (g_th g_here)) <| xs_cons <| x_var (g_th g_here) <| xs_cons <| x_var g_here <| xs_nil (hq _ rfl)
 exact ifD (fun _ => x_lit (t _)) fun _ => x_lit (t _)
noncomputable def sp_alu (op:Int → Int → Int):Spec:=fun vs σ Q => ∃ x y, vs = [.int x, .int y] ∧ Rg x ∧ Rg y ∧ ∀ rest, rest.length = 5 → Q (.tup (.int (op x y) :: rest)) σ
theorem mask_rg (x:Int):Builtin.bitAnd x 4294967295 = x % 4294967296:=bitAnd_m32 x
noncomputable def aAdd (x y:Int):Int:=(x + y) % 4294967296
noncomputable def aSub (x y:Int):Int:=(x - y) % 4294967296
noncomputable def aMul (x y:Int):Int:=(sgn x * sgn y) % 4294967296
noncomputable def aLsl (x y:Int):Int:=(x * 2 ^ (y % 32).toNat) % 4294967296
theorem mod_rg (x:Int):Rg (x % 4294967296):=⟨by omega, by omega⟩
theorem ok_add (hm:Γ.glob "MASK" = some (.int 4294967295)) (hf:Γ.fn "flagged" = some sp_flagged) {vs:List V} {σ:Store} {Q:V → Store → Prop} (h:sp_alu aAdd vs σ Q):wBody Γ ["x", "y"] b_add vs σ Q:=by
 obtain ⟨x, y, rfl, hx, hy, hq⟩:=h
 refine body_intro rfl ?_
 refine s_assign <| x_bin <| x_var (g_th g_here) <| x_var g_here <| n_add ?_
 refine s_assign <| x_bin <| x_var g_here <| x_glob hm <| n_and ?_
 refine s_assign <| x_bin <| x_var (g_th g_here) <| x_lit <| n_shr (by decide) ?_
 refine s_assign <| x_bin <| x_bin <| x_bin <| x_var (g_th (g_th (g_th (g_th g_here)))) <| x_var (g_th g_here) <| n_xor <| x_bin <| x_var (g_th (g_th (g_th g_here))) <| x_var (g_th g_here) <| n_xor <| n_and <| x_lit <| n_shr (by decide) ?_
 refine s_ret <| x_call hf <| xs_cons <| x_var (g_th (g_th g_here)) <| xs_cons <| x_var (g_th g_here) <| xs_cons <| x_var g_here <| xs_nil ⟨_, _, _, .inl rfl, ?_⟩
 rw [mask_rg]; exact hq
theorem ok_sub (hm:Γ.glob "MASK" = some (.int 4294967295)) (hf:Γ.fn "flagged" = some sp_flagged) {vs:List V} {σ:Store} {Q:V → Store → Prop} (h:sp_alu aSub vs σ Q):wBody Γ ["x", "y"] b_sub vs σ Q:=by
 obtain ⟨x, y, rfl, hx, hy, hq⟩:=h
 refine body_intro rfl ?_
 refine s_assign <| x_bin <| x_bin <| x_var (g_th g_here) <| x_var g_here <| n_sub <| x_glob hm <| n_and ?_
 refine s_assign <| x_ite <| t_cmp <| x_var (g_th (g_th g_here)) <| x_var (g_th g_here) <| c_lt ?_
 have t:∀ c:V, wSs Γ [.assign "v" (.bin .RShift (.bin .BitAnd (.bin .BitXor (.var "x") (.var "y")) (.bin .BitXor (.var "x") (.var "result"))) (.lit (.int (31)))), .ret (.call "flagged" [(.var "result"), (.var "c"), (.var "v")])] ((((Loc.set [] "x" (.int x)).set "y" (.int y)).set "result" (.int (Builtin.bitAnd (x - y) 4294967295))).set "c" c) σ (RetK Q):=fun c => by
  refine s_assign <| x_bin <| x_bin <| x_bin <| x_var (g_th (g_th (g_th g_here))) <| x_var (g_th (g_th g_here)) <| n_xor <| x_bin <| x_var (g_th (g_th (g_th g_here))) <| x_var (g_th g_here) <| n_xor <| n_and <| x_lit <| n_shr (by decide) ?_
  refine s_ret <| x_call hf <| xs_cons <| x_var (g_th (g_th g_here)) <| xs_cons <| x_var (g_th g_here) <| xs_cons <| x_var g_here <| xs_nil ⟨_, _, _, .inl rfl, ?_⟩
  rw [mask_rg]; exact hq
 exact ifD (fun _ => x_lit (t _)) fun _ => x_lit (t _)
theorem ok_mul (hm:Γ.glob "MASK" = some (.int 4294967295)) (hf:Γ.fn "flagged" = some sp_flagged) (ht:Γ.fn "to_signed" = some sp_to_signed) {vs:List V} {σ:Store} {Q:V → Store → Prop} (h:sp_alu aMul vs σ Q):wBody Γ ["x", "y"] b_mul vs σ Q:=by
 obtain ⟨x, y, rfl, hx, hy, hq⟩:=h
 refine body_intro rfl ?_
 refine s_assign <| x_bin <| x_call ht <| xs_cons <| x_var (g_th g_here) <| xs_nil ⟨x, rfl, hx, ?_⟩
 refine x_call ht <| xs_cons <| x_var g_here <| xs_nil ⟨y, rfl, hy, ?_⟩
 refine n_mul (.inl (sgn_abs hx)) ?_
 refine s_assign <| x_bin <| x_var g_here <| x_glob hm <| n_and ?_
 refine s_assign <| x_ite <| t_cmp <| x_call ht <| xs_cons <| x_var g_here <| xs_nil ⟨_, rfl, by rw [mask_rg]; exact mod_rg _, ?_⟩
 refine x_var (g_th g_here) <| c_eqi ?_
 have t:∀ v:V, wSs Γ [.ret (.call "flagged" [(.var "result"), (.lit (.int (0))), (.var "v"), (.bin .BitAnd (.bin .RShift (.var "product") (.lit (.int (32)))) (.glob "MASK"))])] (((((Loc.set [] "x" (.int x)).set "y" (.int y)).set "product" (.int (sgn x * sgn y))).set "result" (.int (Builtin.bitAnd (sgn x * sgn y) 4294967295))).set "v" v) σ (RetK Q):=fun v => by
  refine s_ret <| x_call hf <| xs_cons <| x_var (g_th g_here) <| xs_cons <| x_lit <| xs_cons <| x_var g_here <| xs_cons <| x_bin <| x_bin <| x_var (g_th (g_th g_here)) <| x_lit <| n_shr (by decide) <| x_glob hm <| n_and <| xs_nil ⟨_, _, _, .inr ⟨_, rfl⟩, ?_⟩
  rw [mask_rg]; exact hq
 exact ifD (fun _ => x_lit (t _)) fun _ => x_lit (t _)
theorem ok_shift_left (hm:Γ.glob "MASK" = some (.int 4294967295)) (hf:Γ.fn "flagged" = some sp_flagged) {vs:List V} {σ:Store} {Q:V → Store → Prop} (h:sp_alu aLsl vs σ Q):wBody Γ ["x", "y"] b_shift_left vs σ Q:=by
 obtain ⟨x, y, rfl, hx, hy, hq⟩:=h
 have e:Builtin.bitAnd y 31 = y % 32:=bitAnd_m5 y
 refine body_intro rfl ?_
 refine s_ret <| x_call hf <| xs_cons <| x_bin <| x_bin <| x_var (g_th g_here) <| x_bin <| x_var g_here <| x_lit <| n_and <| n_shl ?_ <| x_glob hm <| n_and <| xs_cons <| x_lit <| xs_cons <| x_lit <| xs_nil ⟨_, _, _, .inl rfl, ?_⟩
 ·rw [e]; have:=hx.1; have:=hx.2; omega
 ·rw [mask_rg, e]; exact hq
noncomputable def alu (nm:Str) (x y:Int):Int :=
 if nm = "ADD" then aAdd x y else if nm = "SUB" then aSub x y else if nm = "MUL" then aMul x y else if nm = "LSL" then aLsl x y else if nm = "AND" then Builtin.bitAnd x y else Builtin.bitXor x y
noncomputable def OpNm (nm:Str):Prop:=nm = "ADD" ∨ nm = "SUB" ∨ nm = "MUL" ∨ nm = "LSL" ∨ nm = "AND" ∨ nm = "XOR"
noncomputable def sp_operate:Spec:=fun vs σ Q => ∃ nm x y, vs = [.str nm, .int x, .int y] ∧ OpNm nm ∧ Rg x ∧ Rg y ∧ ∀ rest, rest.length = 5 → Q (.tup (.int (alu nm x y) :: rest)) σ
noncomputable def sp_bitwise:Spec:=fun vs σ Q => ∃ nm x y, vs = [.str nm, .int x, .int y] ∧ (nm = "AND" ∨ nm = "XOR") ∧ Rg x ∧ Rg y ∧ ∀ rest, rest.length = 5 → Q (.tup (.int (alu nm x y) :: rest)) σ
theorem alu_and (x y:Int):alu (Str.ofString "AND") x y = Builtin.bitAnd x y:=by simp only [alu, Str_eq, String.reduceEq, if_false, if_true]
theorem alu_xor (x y:Int):alu (Str.ofString "XOR") x y = Builtin.bitXor x y:=by simp only [alu, Str_eq, String.reduceEq, if_false]
theorem ofs_ne {a b:String} (h:a ≠ b:=by decide):Str.ofString a ≠ Str.ofString b:=fun z => h (ofString_inj.mp z)
theorem ok_bitwise (hf:Γ.fn "flagged" = some sp_flagged) {vs:List V} {σ:Store} {Q:V → Store → Prop} (h:sp_bitwise vs σ Q):wBody Γ ["name", "x", "y"] b_bitwise vs σ Q:=by
 obtain ⟨nm, x, y, rfl, hn, hx, hy, hq⟩:=h
 refine body_intro rfl (s_name (g_th (g_th g_here)) (fun e => ?_) fun n1 => s_name (g_th (g_th g_here)) (fun e => ?_) fun n2 => s_name (g_th (g_th g_here)) (fun e => ?_) fun n3 => s_name (g_th (g_th g_here)) (fun e => ?_) fun n4 => ?_)
 ·subst e
  refine s_ret <| x_call hf <| xs_cons <| x_bin <| x_var (g_th g_here) <| x_var g_here <| n_and <| xs_cons <| x_lit <| xs_cons <| x_lit <| xs_nil ⟨_, _, _, .inl rfl, ?_⟩
  rw [← alu_and]; exact hq
 ·subst e; rcases hn with q | q <;> exact absurd q ofs_ne
 ·subst e; rcases hn with q | q <;> exact absurd q ofs_ne
 ·subst e
  refine s_ret <| x_call hf <| xs_cons <| x_bin <| x_var (g_th g_here) <| x_var g_here <| n_xor <| xs_cons <| x_lit <| xs_cons <| x_lit <| xs_nil ⟨_, _, _, .inl rfl, ?_⟩
  rw [← alu_xor]; exact hq
 ·rcases hn with q | q
  ·exact absurd q n1
  ·exact absurd q n4
theorem ok_operate (h1:Γ.fn "add" = some (sp_alu aAdd)) (h2:Γ.fn "sub" = some (sp_alu aSub)) (h3:Γ.fn "mul" = some (sp_alu aMul)) (h4:Γ.fn "shift_left" = some (sp_alu aLsl)) (h5:Γ.fn "bitwise" = some sp_bitwise) {vs:List V} {σ:Store} {Q:V → Store → Prop}
  (h:sp_operate vs σ Q):wBody Γ ["name", "x", "y"] b_operate vs σ Q:=by
 obtain ⟨nm, x, y, rfl, hn, hx, hy, hq⟩:=h
 have two:∀ {f:Str} {op:Int → Int → Int} {r:List S} {K:Fl → Loc → Store → Prop}, Γ.fn f = some (sp_alu op) → (∀ rest, rest.length = 5 → K (.ret (.tup (.int (op x y) :: rest))) (((Loc.set [] "name" (.str nm)).set "x" (.int x)).set "y" (.int y)) σ) →
   wSs Γ (.ret (.call f [(.var "x"), (.var "y")]) :: r) (((Loc.set [] "name" (.str nm)).set "x" (.int x)).set "y" (.int y)) σ K:=fun hf hk => s_ret (x_call hf (xs_cons (x_var (g_th g_here) (xs_cons (x_var g_here (xs_nil ⟨_, _, rfl, hx, hy, hk⟩))))))
 have no:∀ t:String, t ≠ "ADD" → t ≠ "SUB" → t ≠ "MUL" → t ≠ "LSL" → t ≠ "AND" → t ≠ "XOR" → nm ≠ Str.ofString t:=fun t a1 a2 a3 a4 a5 a6 e => by
  rw [e] at hn
  rcases hn with q | q | q | q | q | q
  ·exact a1 (ofString_inj.mp q)
  ·exact a2 (ofString_inj.mp q)
  ·exact a3 (ofString_inj.mp q)
  ·exact a4 (ofString_inj.mp q)
  ·exact a5 (ofString_inj.mp q)
  ·exact a6 (ofString_inj.mp q)
 refine body_intro rfl (s_name (g_th (g_th g_here)) (fun e => absurd e (no _ (by decide) (by decide) (by decide) (by decide) (by decide) (by decide))) fun _ => s_name (g_th (g_th g_here)) (fun e => two h1 fun rest hr => ?_) fun n1 => s_name (g_th (g_th g_here)) (fun e => two h2 fun rest hr => ?_) fun n2 => s_name (g_th (g_th g_here)) (fun e => two h3 fun rest hr => ?_) fun n3 =>
  s_name (g_th (g_th g_here)) (fun e => absurd e (no _ (by decide) (by decide) (by decide) (by decide) (by decide) (by decide))) fun _ => s_name (g_th (g_th g_here)) (fun e => two h4 fun rest hr => ?_) fun n4 => s_name (g_th (g_th g_here)) (fun e => absurd e (no _ (by decide) (by decide) (by decide) (by decide) (by decide) (by decide))) fun _ => s_name (g_th (g_th g_here)) (fun e => absurd e (no _ (by decide) (by decide) (by decide) (by decide) (by decide) (by decide))) fun _ =>
  s_ret (x_call h5 (xs_cons (x_var (g_th (g_th g_here)) (xs_cons (x_var (g_th g_here) (xs_cons (x_var g_here (xs_nil ⟨_, _, _, rfl, ?_, hx, hy, hq⟩)))))))))
 ·have q:=hq rest hr; unfold alu at q; rw [if_pos e] at q; exact q
 ·have q:=hq rest hr; unfold alu at q; rw [if_neg n1, if_pos e] at q; exact q
 ·have q:=hq rest hr; unfold alu at q; rw [if_neg n1, if_neg n2, if_pos e] at q; exact q
 ·have q:=hq rest hr; unfold alu at q; rw [if_neg n1, if_neg n2, if_neg n3, if_pos e] at q; exact q
 ·rcases hn with q | q | q | q | q | q
  ·exact absurd q n1
  ·exact absurd q n2
  ·exact absurd q n3
  ·exact absurd q n4
  ·exact .inl q
  ·exact .inr q
end
end Mini
end
section
namespace Mini
open PySem PySem.W PyProof.Rows
inductive Op | add | sub | mul | and_ | xor | lsl
 deriving DecidableEq
inductive Kd | ldr | ldb | str | stb | movi | movh | geth | mov | op (o:Op) | opi (o:Op)
 deriving DecidableEq
noncomputable def Op.nm:Op → Str
 | .add => "ADD" | .sub => "SUB" | .mul => "MUL" | .and_ => "AND" | .xor => "XOR" | .lsl => "LSL"
noncomputable def Op.nmI:Op → Str
 | .add => "ADDI" | .sub => "SUBI" | .mul => "MULI" | .and_ => "ANDI" | .xor => "XORI" | .lsl => "LSLI"
noncomputable def Kd.nm:Kd → Str
 | .ldr => "LDR" | .ldb => "LDB" | .str => "STR" | .stb => "STB" | .movi => "MOVI" | .movh => "MOVH" | .geth => "GETH" | .mov => "MOV" | .op o => o.nm | .opi o => o.nmI
inductive Row
 | ins (k:Kd) (a b c:Int)
 | trap (cond:Str) (n m:Int)
 deriving DecidableEq
noncomputable def Row.v:Row → V
 | .ins k a b c => .tup [.str k.nm, .int a, .int b, .int c]
 | .trap cond n m => .tup [.str "TRAP", .str cond, .int n, .int m]
noncomputable def Kd.load:Kd → Bool
 | .ldr => true | .ldb => true | _ => false
noncomputable def Kd.store:Kd → Bool
 | .str => true | .stb => true | _ => false
noncomputable def Kd.mem (k:Kd):Bool:=k.load || k.store
noncomputable def Kd.base:Kd → Str
 | .op o => o.nm | .opi o => o.nm | _ => ""
noncomputable def Kd.bytes:Kd → Int
 | .ldr => 4 | .str => 4 | _ => 1
noncomputable def Row.load:Row → Bool
 | .ins k _ _ _ => k.load | _ => false
noncomputable def Row.store:Row → Bool
 | .ins k _ _ _ => k.store | _ => false
noncomputable def Row.mem:Row → Bool
 | .ins k _ _ _ => k.mem | _ => false
noncomputable def Row.ctl:Row → Bool
 | .trap .. => true | _ => false
noncomputable def Row.base:Row → Str
 | .ins k _ _ _ => k.base | _ => ""
noncomputable def sp_row (f:Row → V):Spec:=fun vs σ Q => ∃ r:Row, vs = [r.v] ∧ Q (f r) σ
section
variable {Γ:GE} {vs:List V} {σ:Store} {Q:V → Store → Prop}
noncomputable def calcStrs:List String:=["LSL", "ASR", "ROR", "AND", "ANN", "IOR", "XOR", "ADD", "SUB", "MUL", "DIV"]
noncomputable def calcNames:List V:=calcStrs.map fun (s:String) => V.str (Str.ofString s)
noncomputable def sp_calculations:Spec:=fun vs σ Q => vs = [] ∧ Q (.tup calcNames) σ
noncomputable def allKd:List Kd:=[.ldr, .ldb, .str, .stb, .movi, .movh, .geth, .mov, .op .add, .op .sub, .op .mul, .op .and_, .op .xor, .op .lsl, .opi .add, .opi .sub, .opi .mul, .opi .and_, .opi .xor, .opi .lsl]
theorem mem_allKd (k:Kd):k ∈ allKd:=by cases k <;> (try rename_i o; cases o) <;> decide +kernel
theorem nm_inj_all:∀ k1 ∈ allKd, ∀ k2 ∈ allKd, k1.nm = k2.nm → k1 = k2:=by decide +kernel
theorem nm_inj {k1 k2:Kd} (h:k1.nm = k2.nm):k1 = k2:=nm_inj_all k1 (mem_allKd k1) k2 (mem_allKd k2) h
noncomputable def Row.nm:Row → Str
 | .ins k _ _ _ => k.nm
 | .trap .. => "TRAP"
theorem i0r {r:Row} (h:Q (.str r.nm) σ):getItemW r.v (.int 0) σ Q:=match r with
 | .ins .. => i0 h
 | .trap .. => i0 h
theorem x_row0 {ρ:Loc} {x:Str} {r:Row} (g:ρ.get x = some r.v) (h:Q (.str r.nm) σ):wX Γ (.sub (.var x) (.lit (.int 0))) ρ σ Q:=⟨_, g, i0r h⟩
theorem row_all {α:Type} {p:Str → α → Prop} {f:Kd → α} {b:α} (h:∀ k ∈ allKd, p k.nm (f k)) (h2:p "TRAP" b):∀ r:Row, p r.nm (match r with | .ins k _ _ _ => f k | _ => b)
 | .ins k _ _ _ => h k (mem_allKd k)
 | .trap .. => h2
theorem ok_calculations (h:sp_calculations vs σ Q):wBody Γ [] b_calculations vs σ Q:=by
 obtain ⟨rfl, hq⟩:=h
 exact body_intro rfl (s_ret (x_strs (ss:=calcStrs) hq))
theorem f_mem (r:Row):(["LDR", "LDB", "STR", "STB"].map Str.ofString).contains r.nm = r.mem:=row_all (p:=fun s b => (["LDR", "LDB", "STR", "STB"].map Str.ofString).contains s = b) (f:=Kd.mem) (by decide +kernel) (by decide +kernel) r
theorem f_load (r:Row):(decide (r.nm = "LDR") || decide (r.nm = "LDB")) = r.load:=row_all (p:=fun s b => (decide (s = "LDR") || decide (s = "LDB")) = b) (f:=Kd.load) (by decide +kernel) (by decide +kernel) r
theorem f_store (r:Row):(decide (r.nm = "STR") || decide (r.nm = "STB")) = r.store:=row_all (p:=fun s b => (decide (s = "STR") || decide (s = "STB")) = b) (f:=Kd.store) (by decide +kernel) (by decide +kernel) r
theorem f_ctl0:∀ k ∈ allKd, (["B", "BL", "BR", "BLR", "TRAP"].map Str.ofString).contains k.nm = false:=by decide +kernel
theorem f_ctl1:(["B", "BL", "BR", "BLR", "TRAP"].map Str.ofString).contains (Str.ofString "TRAP") = true:=by decide +kernel
theorem f_ctl:∀ r:Row, (["B", "BL", "BR", "BLR", "TRAP"].map Str.ofString).contains r.nm = r.ctl
 | .ins k _ _ _ => f_ctl0 k (mem_allKd k)
 | .trap .. => f_ctl1
theorem ok_is_memory (h:sp_row (fun r => .bool r.mem) vs σ Q):wBody Γ ["row"] b_is_memory vs σ Q:=by
 obtain ⟨r, rfl, hq⟩:=h
 dsimp only at hq
 rw [← f_mem r] at hq
 exact body_intro rfl <| s_ret <| x_cmp <| x_row0 g_here <| x_strs (ss:=["LDR", "LDB", "STR", "STB"]) <| c_in <| in_tup hq
theorem ok_is_control (h:sp_row (fun r => .bool r.ctl) vs σ Q):wBody Γ ["row"] b_is_control vs σ Q:=by
 obtain ⟨r, rfl, hq⟩:=h
 dsimp only at hq
 rw [← f_ctl r] at hq
 exact body_intro rfl <| s_ret <| x_cmp <| x_row0 g_here <| x_strs (ss:=["B", "BL", "BR", "BLR", "TRAP"]) <| c_in <| in_tup hq
theorem ok_is_load (h:sp_row (fun r => .bool r.load) vs σ Q):wBody Γ ["row"] b_is_load vs σ Q:=by
 obtain ⟨r, rfl, hq⟩:=h
 dsimp only at hq
 rw [← f_load r] at hq
 refine body_intro rfl <| s_ret <| x_bool <| bo2 <| x_cmp <| x_row0 g_here <| x_lit <| c_eqs <| truth <| ifD (fun e => ?_) fun e => x_cmp <| x_row0 g_here <| x_lit <| c_eqs ?_
 ·rw [decide_eq_true e, Bool.true_or] at hq; rw [decide_eq_true e]; exact hq
 ·rw [decide_eq_false e, Bool.false_or] at hq; exact hq
theorem ok_is_store (h:sp_row (fun r => .bool r.store) vs σ Q):wBody Γ ["row"] b_is_store vs σ Q:=by
 obtain ⟨r, rfl, hq⟩:=h
 dsimp only at hq
 rw [← f_store r] at hq
 refine body_intro rfl <| s_ret <| x_bool <| bo2 <| x_cmp <| x_row0 g_here <| x_lit <| c_eqs <| truth <| ifD (fun e => ?_) fun e => x_cmp <| x_row0 g_here <| x_lit <| c_eqs ?_
 ·rw [decide_eq_true e, Bool.true_or] at hq; rw [decide_eq_true e]; exact hq
 ·rw [decide_eq_false e, Bool.false_or] at hq; exact hq
end
end Mini
end
section
namespace Mini
open PySem PySem.W PyProof.Rows
section
variable {Γ:GE} {vs:List V} {σ:Store} {Q:V → Store → Prop}
noncomputable def inCalc (s:Str):Bool:=(calcStrs.map Str.ofString).contains s
noncomputable def cutI (s:Str):Str:=Txt.slice s none (some (-1))
theorem f_base (r:Row):(if inCalc r.nm = true then r.nm else if (decide (Txt.slice r.nm (some (-1)) none = "I") && inCalc (cutI r.nm)) = true then cutI r.nm else "") = r.base :=
 row_all (p:=fun s b => (if inCalc s = true then s else if (decide (Txt.slice s (some (-1)) none = "I") && inCalc (cutI s)) = true then cutI s else "") = b) (f:=Kd.base) (by decide +kernel) (by decide +kernel) r
theorem f_len (r:Row):decide (r.nm.length ≤ 1000) = true:=row_all (p:=fun s (_:Unit) => decide (s.length ≤ 1000) = true) (f:=fun _ => ()) (b:=()) (by decide +kernel) (by decide +kernel) r
theorem ok_base_name (hc:Γ.fn "calculations" = some sp_calculations) (h:sp_row (fun r => .str r.base) vs σ Q):wBody Γ ["row"] b_base_name vs σ Q:=by
 obtain ⟨r, rfl, hq⟩:=h
 dsimp only at hq
 rw [← f_base r] at hq
 have hl:r.nm.length ≤ 1000:=of_decide_eq_true (f_len r)
 refine body_intro rfl ?_
 refine s_assign <| x_row0 g_here ?_
 refine s_if <| t_cmp <| x_var g_here <| x_call hc <| xs_nil ⟨rfl, ?_⟩
 refine c_in <| in_tup (ss:=calcStrs) <| ifC (fun e => s_ret <| x_var g_here ?_) fun e => ?_
 ·rw [if_pos (show inCalc r.nm = true from e)] at hq; exact hq
 ·rw [if_neg (show ¬ inCalc r.nm = true from fun z => by rw [show inCalc r.nm = false from e] at z; cases z)] at hq
  refine s_if <| t_bool <| ts_cons <| t_cmp <| x_slice <| x_var g_here <| o_some <| x_neg <| o_none ⟨hl, ?_⟩
  refine x_lit <| c_eqs <| ifnD (fun n => ifF rfl ?_) fun e1 => ts_cons <| t_cmp <| x_slice <| x_var g_here <| o_none <| o_some <| x_neg ⟨hl, ?_⟩
  ·rw [decide_eq_false n, Bool.false_and, if_neg (by decide)] at hq
   exact s_ret <| x_lit hq
  ·rw [decide_eq_true e1, Bool.true_and] at hq
   refine x_call hc <| xs_nil ⟨rfl, ?_⟩
   refine c_in <| in_tup (ss:=calcStrs) <| ifnC (fun n => ifF rfl ?_) fun e2 => ts_nil <| ifT rfl ?_
   ·rw [if_neg (show ¬ inCalc (cutI r.nm) = true from fun z => by rw [show inCalc (cutI r.nm) = false from n] at z; cases z)] at hq
    exact s_ret <| x_lit hq
   ·rw [if_pos (show inCalc (cutI r.nm) = true from e2)] at hq
    exact s_ret <| x_slice <| x_var g_here <| o_none <| o_some <| x_neg ⟨hl, hq⟩
end
end Mini
end
section
namespace Mini
open PySem PySem.W PyProof.Rows
noncomputable def Kd.fl:Kd → Bool
 | .ldr => false | .ldb => false | .str => false | .stb => false | _ => true
noncomputable def Row.fl:Row → Bool
 | .ins k _ _ _ => k.fl | _ => false
noncomputable def bytesN:Row → Int
 | .ins k _ _ _ => k.bytes | _ => 1
noncomputable def sp_write_set:Spec:=fun vs σ Q => ∃ k a b d, vs = [Row.v (.ins k a b d)] ∧ 0 ≤ a ∧ a < 17 ∧ ∀ w, Builtin.bitAnd (w.fdiv (2 ^ (17:Int).toNat)) 1 = (if k.fl then 1 else 0) → Q (.int w) σ
noncomputable def apartB (c1 n1 c2 n2:Int):Bool:=decide (c1 + n1 ≤ c2) || decide (c2 + n2 ≤ c1)
noncomputable def sp_apart:Spec:=fun vs σ Q => ∃ k1 a1 b1 c1 k2 a2 b2 c2, vs = [Row.v (.ins k1 a1 b1 c1), Row.v (.ins k2 a2 b2 c2)] ∧ Q (.bool (apartB c1 k1.bytes c2 k2.bytes)) σ
noncomputable def asImm (x:Int):Option Int:=if -65536 ≤ sgn x ∧ sgn x ≤ 65535 then some (sgn x) else none
noncomputable def optV:Option Int → V
 | some i => .int i | none => .none
noncomputable def sp_as_immediate:Spec:=fun vs σ Q => ∃ x, vs = [.int x] ∧ Q (optV (asImm x)) σ
noncomputable def evenH (s:Str):Bool:=[Str.ofString "ADD", Str.ofString "MUL", Str.ofString "AND", Str.ofString "IOR", Str.ofString "XOR"].contains s
noncomputable def keepsM (s:Str):Bool:=[Str.ofString "MOV", Str.ofString "MOVH", Str.ofString "LSL", Str.ofString "ASR", Str.ofString "ROR", Str.ofString "AND", Str.ofString "ANN", Str.ofString "IOR", Str.ofString "XOR"].contains s
noncomputable def sp_str (f:Str → V):Spec:=fun vs σ Q => ∃ s:Str, vs = [.str s] ∧ Q (f s) σ
noncomputable def sp_may_meet:Spec:=fun vs σ Q => ∃ p q k a b c base, vs = [.tup [.int p, .int q], Row.v (.ins k a b c), .int base] ∧ Q (.bool (decide (p ≠ base) || !apartB q 4 c k.bytes)) σ
section
variable {Γ:GE} {vs:List V} {σ:Store} {Q:V → Store → Prop}
theorem f_bytes (r:Row):(if (["LDR", "STR"].map Str.ofString).contains r.nm = true then (4:Int) else 1) = bytesN r:=row_all (p:=fun s (b:Int) => (if (["LDR", "STR"].map Str.ofString).contains s = true then (4:Int) else 1) = b) (f:=Kd.bytes) (b:=1) (by decide +kernel) (by decide +kernel) r
theorem ok_bytes_of (h:sp_row (fun r => .int (bytesN r)) vs σ Q):wBody Γ ["row"] b_bytes_of vs σ Q:=by
 obtain ⟨r, rfl, hq⟩:=h
 dsimp only at hq
 rw [← f_bytes r] at hq
 refine body_intro rfl <| s_ret <| x_ite <| t_cmp <| x_row0 g_here <| x_strs (ss:=["LDR", "STR"]) <| c_in <| in_tup <| ifC (fun e => x_lit ?_) fun e => x_lit ?_
 ·rw [if_pos e] at hq; exact hq
 ·rw [if_neg (by rw [e]; decide)] at hq; exact hq
theorem ok_apart (hb:Γ.fn "bytes_of" = some (sp_row (fun r => .int (bytesN r)))) (h:sp_apart vs σ Q):wBody Γ ["first", "second"] b_apart vs σ Q:=by
 obtain ⟨k1, a1, b1, c1, k2, a2, b2, c2, rfl, hq⟩:=h
 refine body_intro rfl ?_
 refine s_if <| t_cmp <| x_bin <| v3 (a:=.str k1.nm) (b:=.int a1) (c:=.int b1) (d:=.int c1) (g_th g_here) <| x_call hb <| xs_cons <| x_var (g_th g_here) <| xs_nil ⟨.ins k1 a1 b1 c1, rfl, n_add ?_⟩
 refine v3 (a:=.str k2.nm) (b:=.int a2) (c:=.int b2) (d:=.int c2) g_here <| c_le <| ifD (fun q => s_ret <| x_lit ?_) fun q => ?_
 ·have q:c1 + k1.bytes ≤ c2:=q
  rw [apartB, decide_eq_true q, Bool.true_or] at hq; exact hq
 ·have q:¬ c1 + k1.bytes ≤ c2:=q
  rw [apartB, decide_eq_false q, Bool.false_or] at hq
  exact s_ret <| x_cmp <| x_bin <| v3 (a:=.str k2.nm) (b:=.int a2) (c:=.int b2) (d:=.int c2) g_here <| x_call hb <| xs_cons <| x_var g_here <| xs_nil ⟨.ins k2 a2 b2 c2, rfl, n_add <| v3 (a:=.str k1.nm) (b:=.int a1) (c:=.int b1) (d:=.int c1) (g_th g_here) <| c_le hq⟩
theorem ok_as_immediate (hw:Γ.glob "WORD" = some (.int 4294967296)) (hh:Γ.glob "HALF" = some (.int 2147483648)) (h:sp_as_immediate vs σ Q):wBody Γ ["value"] b_as_immediate vs σ Q:=by
 obtain ⟨x, rfl, hq⟩:=h
 have key:∀ y:Int, sgn x = y → wSs Γ [.ite (.boolop false [(.cmp .LtE (.neg (.lit (.int (65536)))) (.var "signed")), (.cmp .LtE (.var "signed") (.lit (.int (65535))))]) [.ret (.var "signed")] [], .ret (.lit .none)] ((Loc.set [] "value" (.int x)).set "signed" (.int y)) σ (RetK Q):=by
  intro y hy
  unfold asImm at hq
  rw [hy] at hq
  refine s_if <| t_bool <| ts_cons <| t_cmp <| x_neg <| x_var g_here <| c_le <| ifnD (fun q => ifF rfl <| s_ret <| x_lit ?_) fun q1 => ts_cons <| t_cmp <| x_var g_here <| x_lit <| c_le <| ifnD (fun q => ifF rfl <| s_ret <| x_lit ?_) fun q2 => ts_nil <| ifT rfl <| s_ret <| x_var g_here ?_
  ·rw [if_neg (fun z => q z.1)] at hq; exact hq
  ·rw [if_neg (fun z => q z.2)] at hq; exact hq
  ·rw [if_pos ⟨q1, q2⟩] at hq; exact hq
 refine body_intro rfl ?_
 refine s_assign <| x_ite <| t_cmp <| x_var g_here <| x_glob hh <| c_ge <| ifD (fun q => x_bin <| x_var g_here <| x_glob hw <| n_sub <| key _ ?_) fun q => x_var g_here <| key _ ?_
 ·unfold sgn; rw [if_pos q]
 ·unfold sgn; rw [if_neg q]
theorem ok_is_even_handed (h:sp_str (fun s => .bool (evenH s)) vs σ Q):wBody Γ ["name"] b_is_even_handed vs σ Q:=by
 obtain ⟨s, rfl, hq⟩:=h
 exact body_intro rfl <| s_ret <| x_cmp <| x_var g_here <| x_strs (ss:=["ADD", "MUL", "AND", "IOR", "XOR"]) <| c_in <| in_tup hq
theorem ok_keeps_move_flags (h:sp_str (fun s => .bool (keepsM s)) vs σ Q):wBody Γ ["name"] b_keeps_move_flags vs σ Q:=by
 obtain ⟨s, rfl, hq⟩:=h
 exact body_intro rfl <| s_ret <| x_cmp <| x_var g_here <| x_strs (ss:=["MOV", "MOVH", "LSL", "ASR", "ROR", "AND", "ANN", "IOR", "XOR"]) <| c_in <| in_tup hq
theorem ok_may_meet (ha:Γ.fn "apart" = some sp_apart) (h:sp_may_meet vs σ Q):wBody Γ ["place", "row", "base"] b_may_meet vs σ Q:=by
 obtain ⟨p, q, k, a, b, c, base, rfl, hq⟩:=h
 have gp:((((Loc.set [] "place" (.tup [.int p, .int q])).set "row" (Row.v (.ins k a b c))).set "base" (.int base))).get "place" = some (.tup [.int p, .int q]):=g_th (g_th g_here)
 refine body_intro rfl <| s_ret <| x_bool <| bo2 <| x_cmp <| w0 gp <| x_var g_here <| c_nei <| truth ?_
 by_cases hp:p = base
 ·refine ifF (by rw [decide_eq_true hp]; rfl) ?_
  refine x_not <| x_call ha <| xs_cons <| x_tup <| xs_cons <| x_lit <| xs_cons <| x_lit <| xs_cons <| x_lit <| xs_cons <| w1' gp <| xs_nil <| xs_cons <| x_var (g_th g_here) <| xs_nil ⟨.str, 0, 0, q, k, a, b, c, rfl, truth ?_⟩
  rw [decide_eq_false (fun z => z hp), Bool.false_or] at hq; exact hq
 ·refine ifT (by rw [decide_eq_false hp]; rfl) ?_
  rw [decide_eq_true hp, Bool.true_or] at hq
  rw [decide_eq_false hp]; exact hq
theorem w1:∀ m:Fin 17, Builtin.bitAnd ((1 * 2 ^ m.val:Int).fdiv (2 ^ (17:Int).toNat)) 1 = 0:=by decide +kernel
theorem w2:∀ m:Fin 17, Builtin.bitAnd ((Builtin.bitOr (1 * 2 ^ m.val) (1 * 2 ^ (17:Int).toNat)).fdiv (2 ^ (17:Int).toNat)) 1 = 1:=by decide +kernel
theorem w3:∀ m:Fin 17, Builtin.bitAnd ((Builtin.bitOr (Builtin.bitOr (1 * 2 ^ m.val) (1 * 2 ^ (17:Int).toNat)) (1 * 2 ^ (16:Int).toNat)).fdiv (2 ^ (17:Int).toNat)) 1 = 1:=by decide +kernel
theorem ok_write_set (h1:Γ.fn "is_store" = some (sp_row (fun r => .bool r.store))) (h2:Γ.fn "is_load" = some (sp_row (fun r => .bool r.load))) (h3:Γ.fn "base_name" = some (sp_row (fun r => .str r.base))) (hf:Γ.glob "FLAGS" = some (.int 17)) (hh:Γ.glob "HIGH" = some (.int 16))
  (h:sp_write_set vs σ Q):wBody Γ ["row"] b_write_set vs σ Q:=by
 obtain ⟨k, a, b, d, rfl, a0, a1, hq⟩:=h
 have lt:a.toNat < 17:=by omega
 have b1:0 ≤ a ∧ a ≤ 1000 ∧ (1:Int).natAbs < 2 ^ 64:=⟨a0, by omega, by decide⟩
 have g:∀ {ρ:Loc} {Q:V → Store → Prop}, ρ.get "row" = some (Row.v (.ins k a b d)) → Q (.int a) σ → wX Γ (.sub (.var "row") (.lit (.int 1))) ρ σ Q:=fun g q => v1 (a:=.str k.nm) (b:=.int a) (c:=.int b) (d:=.int d) g q
 refine body_intro rfl ?_
 refine s_if <| t_call h1 <| xs_cons <| x_var g_here <| xs_nil ⟨.ins k a b d, rfl, truth <| ifC (fun e => s_ret <| x_lit <| hq 0 ?_) fun e1 => ?_⟩
 ·have:k.fl = false:=by cases k <;> first | rfl | (cases e; done)
  rw [this]; decide
 refine s_if <| t_call h2 <| xs_cons <| x_var g_here <| xs_nil ⟨.ins k a b d, rfl, truth <| ifC (fun e => s_ret <| x_bin <| x_lit <| g g_here <| n_shl b1 <| hq _ ?_) fun e2 => ?_⟩
 ·have:k.fl = false:=by cases k <;> first | rfl | (cases e; done)
  rw [this]; exact w1 ⟨a.toNat, lt⟩
 have fl:k.fl = true:=by cases k <;> first | rfl | (cases e1; done) | (cases e2; done)
 refine s_assign <| x_bin <| x_bin <| x_lit <| g g_here <| n_shl b1 <| x_bin <| x_lit <| x_glob hf <| n_shl (by decide) <| n_or ?_
 refine s_if <| t_cmp <| x_call h3 <| xs_cons <| x_var (g_th g_here) <| xs_nil ⟨.ins k a b d, rfl, x_strs (ss:=["MUL", "DIV"]) <| c_in <| in_tup <| ifC (fun e => ?_) fun e => ?_⟩
 ·refine s_assign <| x_bin <| x_var g_here <| x_bin <| x_lit <| x_glob hh <| n_shl (by decide) <| n_or <| s_nil <| s_ret <| x_var g_here <| hq _ ?_
  rw [fl]; exact w3 ⟨a.toNat, lt⟩
 ·refine s_ret <| x_var g_here <| hq _ ?_
  rw [fl]; exact w2 ⟨a.toNat, lt⟩
end
end Mini
end
section
namespace Mini
open PySem PySem.W PyProof.Rows
section
variable {K α:Type} [DecidableEq K]
theorem mem_aset {es:List (K × α)} {k:K} {v:α} {e:K × α} (h:e ∈ aset es k v):e ∈ es ∨ (e.1 = k ∧ e.2 = v):=by
 unfold aset at h
 split at h
 ·obtain ⟨x, hx, rfl⟩:=List.mem_map.mp h
  by_cases q:x.1 = k
  ·simp [q]
  ·simp only [if_neg q]; exact .inl hx
 ·rcases List.mem_append.mp h with h | h
  ·exact .inl h
  ·rw [List.mem_singleton] at h; subst h; exact .inr ⟨rfl, rfl⟩
end
noncomputable def upd {α:Type} [DecidableEq α] (f:α → Option Int) (x:α) (v:Int):α → Option Int:=fun y => if x = y then some v else f y
structure MapK {α:Type} (enc:α → Key) (f:α → Option Int) (B:Nat) (es:List (Key × V)):Prop where
 len:es.length ≤ B
 shape:∀ e ∈ es, ∃ x v, e.1 = enc x ∧ e.2 = .int v
 at_:∀ x, aget es (enc x) = (f x).map V.int
theorem MapK.nil {α:Type} {enc:α → Key} {B:Nat}:MapK enc (fun _ => none) B []:=⟨Nat.zero_le _, fun e h => by simp at h, fun x => rfl⟩
theorem MapK.up {α:Type} {enc:α → Key} {f:α → Option Int} {B B':Nat} {es:List (Key × V)} (m:MapK enc f B es) (h:B ≤ B'):MapK enc f B' es:=⟨Nat.le_trans m.len h, m.shape, m.at_⟩
theorem MapK.set {α:Type} [DecidableEq α] {enc:α → Key} (inj:∀ x y, enc x = enc y → x = y) {f:α → Option Int} {B:Nat} {es:List (Key × V)} (m:MapK enc f B es) (x:α) (v:Int):MapK enc (upd f x v) (B + 1) (aset es (enc x) (.int v)):=by
 refine ⟨Nat.le_trans (aset_len _ _ _) (Nat.succ_le_succ m.len), fun e he => ?_, fun y => ?_⟩
 ·rcases mem_aset he with q | ⟨q1, q2⟩
  ·exact m.shape e q
  ·exact ⟨x, v, q1, q2⟩
 ·rw [aget_aset]
  unfold upd
  by_cases h:x = y
  ·subst h; simp
  ·rw [if_neg (fun z => h (inj _ _ z)), if_neg h]; exact m.at_ y
noncomputable def kI (i:Int):Key:=.one (.int i)
noncomputable def kT (x:Str × Int × Int):Key:=.tp [.str x.1, .int x.2.1, .int x.2.2]
noncomputable def kW (x:Int × Int):Key:=.tp [.int x.1, .int x.2]
theorem kI_inj:∀ x y, kI x = kI y → x = y:=fun x y h => by cases h; rfl
theorem kT_inj:∀ x y, kT x = kT y → x = y:=fun ⟨a, b, c⟩ ⟨d, e, f⟩ h => by cases h; rfl
theorem kW_inj:∀ x y, kW x = kW y → x = y:=fun ⟨a, b⟩ ⟨d, e⟩ h => by cases h; rfl
structure VP where
 a:Addr
 dx:Addr
 rg:Addr
 cs:Addr
 nm:Addr
 tb:Addr
 wd:Addr
noncomputable def VP.all (P:VP):List Addr:=[P.a, P.dx, P.rg, P.cs, P.nm, P.tb, P.wd]
noncomputable def VP.foot (P:VP):List Addr:=[P.dx, P.rg, P.cs, P.nm, P.tb, P.wd]
structure VS where
 count:Int
 regs:Int → Option Int
 consts:Int → Option Int
 numbers:Int → Option Int
 table:Str × Int × Int → Option Int
 words:Int × Int → Option Int
noncomputable def VP.attrs (P:VP) (n:Int):List (Str × V):=[("count", .int n), ("regs", .ref P.rg), ("consts", .ref P.cs), ("numbers", .ref P.nm), ("table", .ref P.tb), ("words", .ref P.wd)]
structure IsV (σ:Store) (P:VP) (S:VS) (B:Nat):Prop where
 inst:σ P.a = some (.inst P.dx)
 dict:σ P.dx = some (.attrs (P.attrs S.count))
 apart:P.all.Nodup
 rg:∃ es, σ P.rg = some (.dict es) ∧ MapK kI S.regs B es
 cs:∃ es, σ P.cs = some (.dict es) ∧ MapK kI S.consts B es
 nm:∃ es, σ P.nm = some (.dict es) ∧ MapK kI S.numbers B es
 tb:∃ es, σ P.tb = some (.dict es) ∧ MapK kT S.table B es
 wd:∃ es, σ P.wd = some (.dict es) ∧ MapK kW S.words B es
structure KeepV (P P':VP) (σ σ':Store):Prop where
 keep:∀ b o, σ b = some o → b ∉ P.foot → σ' b = some o
 foot:∀ b, (σ b).isSome = true → b ∉ P.foot → b ∉ P'.foot
noncomputable def Runs (P:VP) (S:VS) (B B':Nat) (S':VS) (σ:Store) (K:Store → Prop):Prop:=IsV σ P S B ∧ B' ≤ 50000 ∧ ∀ P' σ', P'.a = P.a → IsV σ' P' S' B' → KeepV P P' σ σ' → K σ'
end Mini
end
section
namespace Mini
open PySem PySem.W PyProof.Rows
theorem KeepV.refl (P:VP) (σ:Store):KeepV P P σ σ:=⟨fun _ _ e _ => e, fun _ _ h => h⟩
theorem KeepV.set {P:VP} {σ:Store} {b:Addr} {o:MObj} (h:b ∈ P.foot):KeepV P P σ (σ.set b o) :=
 ⟨fun x o' e n => by rw [set_ne (fun z:x = b => n (by rw [z]; exact h))]; exact e, fun _ _ h => h⟩
theorem KeepV.trans {P P' P'':VP} {σ σ' σ'':Store} (h:KeepV P P' σ σ') (h':KeepV P' P'' σ' σ''):KeepV P P'' σ σ'' :=
 ⟨fun b o e n => h'.keep b o (h.keep b o e n) (h.foot b (by rw [e]; rfl) n), fun b s n => by
  obtain ⟨o, e⟩:=Option.isSome_iff_exists.mp s
  exact h'.foot b (by rw [h.keep b o e n]; rfl) (h.foot b s n)⟩
section
variable {σ:Store} {P:VP} {S:VS} {B:Nat}
theorem dx_ft:P.dx ∈ P.foot:=.head _
theorem rg_ft:P.rg ∈ P.foot:=.tail _ (.head _)
theorem cs_ft:P.cs ∈ P.foot:=.tail _ (.tail _ (.head _))
theorem nm_ft:P.nm ∈ P.foot:=.tail _ (.tail _ (.tail _ (.head _)))
theorem tb_ft:P.tb ∈ P.foot:=.tail _ (.tail _ (.tail _ (.tail _ (.head _))))
theorem wd_ft:P.wd ∈ P.foot:=.tail _ (.tail _ (.tail _ (.tail _ (.tail _ (.head _)))))
theorem IsV.up {B':Nat} (h:IsV σ P S B) (l:B ≤ B'):IsV σ P S B' :=
 ⟨h.inst, h.dict, h.apart, let ⟨es, e, m⟩:=h.rg; ⟨es, e, m.up l⟩, let ⟨es, e, m⟩:=h.cs; ⟨es, e, m.up l⟩, let ⟨es, e, m⟩:=h.nm; ⟨es, e, m.up l⟩, let ⟨es, e, m⟩:=h.tb; ⟨es, e, m.up l⟩, let ⟨es, e, m⟩:=h.wd; ⟨es, e, m.up l⟩⟩
theorem VP.nd (h:P.all.Nodup):List.Pairwise (· ≠ ·) [P.a, P.dx, P.rg, P.cs, P.nm, P.tb, P.wd]:=h
theorem VP.ne (h:P.all.Nodup):P.a ≠ P.dx ∧ P.a ≠ P.rg ∧ P.a ≠ P.cs ∧ P.a ≠ P.nm ∧ P.a ≠ P.tb ∧ P.a ≠ P.wd ∧ P.dx ≠ P.rg ∧ P.dx ≠ P.cs ∧ P.dx ≠ P.nm ∧ P.dx ≠ P.tb ∧ P.dx ≠ P.wd ∧
  P.rg ≠ P.cs ∧ P.rg ≠ P.nm ∧ P.rg ≠ P.tb ∧ P.rg ≠ P.wd ∧ P.cs ≠ P.nm ∧ P.cs ≠ P.tb ∧ P.cs ≠ P.wd ∧ P.nm ≠ P.tb ∧ P.nm ≠ P.wd ∧ P.tb ≠ P.wd:=by
 have h0:=List.pairwise_cons.mp (VP.nd h)
 have h1:=List.pairwise_cons.mp h0.2
 have h2:=List.pairwise_cons.mp h1.2
 have h3:=List.pairwise_cons.mp h2.2
 have h4:=List.pairwise_cons.mp h3.2
 have h5:=List.pairwise_cons.mp h4.2
 exact ⟨h0.1 _ (.head _), h0.1 _ (.tail _ (.head _)), h0.1 _ (.tail _ (.tail _ (.head _))), h0.1 _ (.tail _ (.tail _ (.tail _ (.head _)))), h0.1 _ (.tail _ (.tail _ (.tail _ (.tail _ (.head _))))), h0.1 _ (.tail _ (.tail _ (.tail _ (.tail _ (.tail _ (.head _)))))),
  h1.1 _ (.head _), h1.1 _ (.tail _ (.head _)), h1.1 _ (.tail _ (.tail _ (.head _))), h1.1 _ (.tail _ (.tail _ (.tail _ (.head _)))), h1.1 _ (.tail _ (.tail _ (.tail _ (.tail _ (.head _))))),
  h2.1 _ (.head _), h2.1 _ (.tail _ (.head _)), h2.1 _ (.tail _ (.tail _ (.head _))), h2.1 _ (.tail _ (.tail _ (.tail _ (.head _)))),
  h3.1 _ (.head _), h3.1 _ (.tail _ (.head _)), h3.1 _ (.tail _ (.tail _ (.head _))), h4.1 _ (.head _), h4.1 _ (.tail _ (.head _)), h5.1 _ (.head _)⟩
theorem VP.ft (h:P.all.Nodup) {b:Addr} (hb:b ∈ P.foot):P.a ≠ b:=(List.pairwise_cons.mp (VP.nd h)).1 b hb
section
variable {o:MObj} (h:P.all.Nodup)
include h
theorem n_dx {b:Addr} (hb:b ∈ [P.rg, P.cs, P.nm, P.tb, P.wd]):P.dx ≠ b:=(List.pairwise_cons.mp (List.pairwise_cons.mp (VP.nd h)).2).1 b hb
end
theorem IsV.setCount (h:IsV σ P S B) (n:Int):IsV (σ.set P.dx (.attrs (P.attrs n))) P { S with count:=n } B:=by
 obtain ⟨h1, h2, h3, h4, h5, h6, h7, h8⟩:=h
 have k:=fun b hb => (n_dx (b:=b) h3 hb).symm
 exact ⟨(set_ne (VP.ft h3 dx_ft)).trans h1, set_eq, h3, by rw [set_ne (k _ (.head _))]; exact h4, by rw [set_ne (k _ (.tail _ (.head _)))]; exact h5, by rw [set_ne (k _ (.tail _ (.tail _ (.head _))))]; exact h6, by rw [set_ne (k _ (.tail _ (.tail _ (.tail _ (.head _)))))]; exact h7, by rw [set_ne (k _ (.tail _ (.tail _ (.tail _ (.tail _ (.head _))))))]; exact h8⟩
theorem IsV.set_rg (h:IsV σ P S B) {f:Int → Option Int} {es:List (Key × V)} (m:MapK kI f B es):IsV (σ.set P.rg (.dict es)) P { S with regs:=f } B:=by
 obtain ⟨h1, h2, h3, h4, h5, h6, h7, h8⟩:=h
 obtain ⟨_, _, _, _, _, _, b1, _, _, _, _, c1, c2, c3, c4, _⟩:=VP.ne h3
 exact ⟨(set_ne (VP.ft h3 rg_ft)).trans h1, (set_ne b1).trans h2, h3, ⟨es, set_eq, m⟩, by rw [set_ne c1.symm]; exact h5, by rw [set_ne c2.symm]; exact h6, by rw [set_ne c3.symm]; exact h7, by rw [set_ne c4.symm]; exact h8⟩
theorem IsV.set_cs (h:IsV σ P S B) {f:Int → Option Int} {es:List (Key × V)} (m:MapK kI f B es):IsV (σ.set P.cs (.dict es)) P { S with consts:=f } B:=by
 obtain ⟨h1, h2, h3, h4, h5, h6, h7, h8⟩:=h
 obtain ⟨_, _, _, _, _, _, _, b2, _, _, _, c1, _, _, _, d1, d2, d3, _⟩:=VP.ne h3
 exact ⟨(set_ne (VP.ft h3 cs_ft)).trans h1, (set_ne b2).trans h2, h3, by rw [set_ne c1]; exact h4, ⟨es, set_eq, m⟩, by rw [set_ne d1.symm]; exact h6, by rw [set_ne d2.symm]; exact h7, by rw [set_ne d3.symm]; exact h8⟩
theorem IsV.set_nm (h:IsV σ P S B) {f:Int → Option Int} {es:List (Key × V)} (m:MapK kI f B es):IsV (σ.set P.nm (.dict es)) P { S with numbers:=f } B:=by
 obtain ⟨h1, h2, h3, h4, h5, h6, h7, h8⟩:=h
 obtain ⟨_, _, _, _, _, _, _, _, b3, _, _, _, c2, _, _, d1, _, _, e1, e2, _⟩:=VP.ne h3
 exact ⟨(set_ne (VP.ft h3 nm_ft)).trans h1, (set_ne b3).trans h2, h3, by rw [set_ne c2]; exact h4, by rw [set_ne d1]; exact h5, ⟨es, set_eq, m⟩, by rw [set_ne e1.symm]; exact h7, by rw [set_ne e2.symm]; exact h8⟩
theorem IsV.set_tb (h:IsV σ P S B) {f:Str × Int × Int → Option Int} {es:List (Key × V)} (m:MapK kT f B es):IsV (σ.set P.tb (.dict es)) P { S with table:=f } B:=by
 obtain ⟨h1, h2, h3, h4, h5, h6, h7, h8⟩:=h
 obtain ⟨_, _, _, _, _, _, _, _, _, b4, _, _, _, c3, _, _, d2, _, e1, _, f1⟩:=VP.ne h3
 exact ⟨(set_ne (VP.ft h3 tb_ft)).trans h1, (set_ne b4).trans h2, h3, by rw [set_ne c3]; exact h4, by rw [set_ne d2]; exact h5, by rw [set_ne e1]; exact h6, ⟨es, set_eq, m⟩, by rw [set_ne f1.symm]; exact h8⟩
theorem IsV.set_wd (h:IsV σ P S B) {f:Int × Int → Option Int} {es:List (Key × V)} (m:MapK kW f B es):IsV (σ.set P.wd (.dict es)) P { S with words:=f } B:=by
 obtain ⟨h1, h2, h3, h4, h5, h6, h7, h8⟩:=h
 obtain ⟨_, _, _, _, _, _, _, _, _, _, b5, _, _, _, c4, _, _, d3, _, e2, f1⟩:=VP.ne h3
 exact ⟨(set_ne (VP.ft h3 wd_ft)).trans h1, (set_ne b5).trans h2, h3, by rw [set_ne c4]; exact h4, by rw [set_ne d3]; exact h5, by rw [set_ne e2]; exact h6, by rw [set_ne f1]; exact h7, ⟨es, set_eq, m⟩⟩
noncomputable def VS.fresh (S:VS):VS:={ S with count:=S.count + 1 }
noncomputable def sp_fresh:Spec:=fun vs σ Q => ∃ P S B, vs = [.ref P.a] ∧ Runs P S B B S.fresh σ (Q (.int (S.count + 1)))
theorem ok_fresh {Γ:GE} {vs:List V} {σ:Store} {Q:V → Store → Prop} (h:sp_fresh vs σ Q):wBody Γ ["self"] b_V_fresh vs σ Q:=by
 obtain ⟨P, S, B, rfl, iv, hB, hq⟩:=h
 refine body_intro rfl ?_
 have iv':=iv.setCount (S.count + 1)
 exact ⟨_, g_here, P.dx, _, _, iv.inst, iv.dict, rfl, S.count, 1, rfl, rfl, rfl, P.dx, _, iv.inst, iv.dict, (by decide:6 ≤ 100), _, g_here, P.dx, _, _, iv'.inst, iv'.dict, rfl, hq P _ rfl iv' (KeepV.set dx_ft)⟩
end
end Mini
end
section
namespace Mini
open PySem PySem.W PyProof.Rows
section
variable {σ:Store} {P:VP} {S:VS} {B:Nat} {Γ:GE}
theorem IsV.getA (h:IsV σ P S B) {a:Addr} (ha:P.a = a) {x:Str} {v:V} {Q:V → Store → Prop} (e:aget (P.attrs S.count) x = some v) (q:Q v σ):getAttrW (.ref a) x σ Q:=⟨P.dx, _, v, ha ▸ h.inst, h.dict, e, q⟩
theorem in_dict {α:Type} {enc:α → Key} {f:α → Option Int} {d:Addr} {es:List (Key × V)} {x:V} {k:α} {K:Bool → Prop} (e:σ d = some (.dict es)) (m:MapK enc f B es) (hk:x.key? = some (enc k)) (tp:∀ x y, (enc x).isTp = (enc y).isTp) (q:K (f k).isSome):isIn σ x (.ref d) K:=by
 unfold isIn
 dsimp only
 rw [e]
 refine ⟨enc k, hk, fun en he => ?_, ?_⟩
 ·obtain ⟨y, v, e1, _⟩:=m.shape en he; rw [e1]; exact tp _ _
 ·rw [m.at_ k, Option.isSome_map]; exact q
theorem get_dict {α:Type} {enc:α → Key} {f:α → Option Int} {d:Addr} {es:List (Key × V)} {x:V} {k:α} {i:Int} {Q:V → Store → Prop} (e:σ d = some (.dict es)) (m:MapK enc f B es) (hk:x.key? = some (enc k)) (tp:∀ x y, (enc x).isTp = (enc y).isTp) (hf:f k = some i) (q:Q (.int i) σ):getItemW (.ref d) x σ Q:=by
 unfold getItemW
 dsimp only
 rw [e]
 exact ⟨enc k, .int i, hk, fun en he => by obtain ⟨y, v, e1, _⟩:=m.shape en he; rw [e1]; exact tp _ _, by rw [m.at_ k, hf]; rfl, q⟩
theorem set_dict {α:Type} {enc:α → Key} {f:α → Option Int} {d:Addr} {es:List (Key × V)} {x:V} {k:α} {v:V} {Q:Store → Prop} (e:σ d = some (.dict es)) (m:MapK enc f B es) (hB:B ≤ 100000) (hk:x.key? = some (enc k)) (tp:∀ x y, (enc x).isTp = (enc y).isTp)
  (q:Q (σ.set d (.dict (aset es (enc k) v)))):setItemW (.ref d) x v σ Q:=by
 unfold setItemW
 dsimp only
 rw [e]
 exact ⟨enc k, hk, fun en he => by obtain ⟨y, v, e1, _⟩:=m.shape en he; rw [e1]; exact tp _ _, Nat.le_trans m.len hB, q⟩
theorem getd_dict {α:Type} {enc:α → Key} {f:α → Option Int} {d:Addr} {es:List (Key × V)} {x:V} {k:α} {i:Int} {Q:V → Store → Prop} (e:σ d = some (.dict es)) (m:MapK enc f B es) (hk:x.key? = some (enc k)) (tp:∀ x y, (enc x).isTp = (enc y).isTp) (q:Q (.int ((f k).getD i)) σ) :
  methW .get (.ref d) [x, .int i] σ Q:=by
 refine ⟨es, enc k, e, hk, fun en he => by obtain ⟨y, v, e1, _⟩:=m.shape en he; rw [e1]; exact tp _ _, ?_⟩
 rw [m.at_ k]
 cases h:f k with
 | none => rw [h] at q; exact q
 | some j => rw [h] at q; exact q
theorem IsV.meth (h:IsV σ P S B) {a:Addr} (ha:P.a = a) {x:Str} {sp:Spec} {K:MKind → Prop} (hm:Γ.meth x = some sp) (e:aget (P.attrs S.count) x = none) (q:K (.own sp)):methKind Γ σ (.ref a) x K:=by
 subst ha
 unfold methKind
 dsimp only
 rw [h.inst]
 exact ⟨_, sp, h.dict, e, hm, q⟩
theorem x_own {ρ:Loc} {x f:Str} {a:Addr} {xs:List X} {sp:Spec} {Q:V → Store → Prop} (g:ρ.get x = some (.ref a)) (iv:IsV σ P S B) (ha:P.a = a) (hm:Γ.meth f = some sp) (e:aget (P.attrs S.count) f = none) (h:wXs Γ xs ρ σ fun vs σ₁ => sp (.ref a :: vs) σ₁ Q):wX Γ (.meth (.var x) f xs) ρ σ Q:=⟨_, g, iv.meth ha hm e h⟩
theorem x_at {ρ:Loc} {x f:Str} {a:Addr} {v:V} {Q:V → Store → Prop} (g:ρ.get x = some (.ref a)) (iv:IsV σ P S B) (ha:P.a = a) (e:aget (P.attrs S.count) f = some v) (h:Q v σ):wX Γ (.attr (.var x) f) ρ σ Q:=⟨_, g, iv.getA ha e h⟩
theorem kI_tp:∀ x y, (kI x).isTp = (kI y).isTp:=fun _ _ => rfl
theorem kT_tp:∀ x y, (kT x).isTp = (kT y).isTp:=fun _ _ => rfl
theorem kW_tp:∀ x y, (kW x).isTp = (kW y).isTp:=fun _ _ => rfl
noncomputable def VS.of (S:VS) (r:Int):Int × VS:=match S.regs r with
 | some n => (n, S)
 | none => (S.count + 1, { S.fresh with regs:=upd S.regs r (S.count + 1) })
noncomputable def sp_of:Spec:=fun vs σ Q => ∃ P S B r, vs = [.ref P.a, .int r] ∧ Runs P S B (B + 1) (S.of r).2 σ (Q (.int (S.of r).1))
theorem ok_of (hfr:Γ.meth "fresh" = some sp_fresh) {vs:List V} {σ:Store} {Q:V → Store → Prop} (h:sp_of vs σ Q):wBody Γ ["self", "register"] b_V_of vs σ Q:=by
 obtain ⟨P, S, B, r, rfl, iv, hB, hq⟩:=h
 refine body_intro rfl ?_
 obtain ⟨es, e, m⟩:=iv.rg
 unfold VS.of at hq
 refine s_if <| t_cmp <| x_var g_here <| x_at (g_th g_here) iv rfl (v:=.ref P.rg) rfl <| c_notin <| in_dict e m (k:=r) rfl kI_tp ?_
 cases hr:S.regs r with
 | some n =>
  rw [hr] at hq
  exact ifF rfl <| s_ret <| x_sub <| x_at (g_th g_here) iv rfl (v:=.ref P.rg) rfl <| x_var g_here <| get_dict e m (k:=r) rfl kI_tp hr (hq P σ rfl (iv.up (Nat.le_succ B)) (KeepV.refl _ _))
 | none =>
  rw [hr] at hq
  refine ifT rfl <| s_sub <| x_own (g_th g_here) iv rfl hfr rfl <| xs_nil ⟨P, S, B, rfl, iv, Nat.le_of_succ_le hB, fun P1 σ1 ha iv1 kp1 => ?_⟩
  obtain ⟨es1, e1, m1⟩:=iv1.rg
  have iv2:=(iv1.up (Nat.le_succ B)).set_rg (m1.set kI_inj r (S.count + 1))
  obtain ⟨es2, e2, m2⟩:=iv2.rg
  exact x_at (g_th g_here) iv1 ha (v:=.ref P1.rg) rfl <| x_var g_here <| set_dict e1 m1 (Nat.le_trans (Nat.le_of_succ_le hB) (by decide)) (k:=r) rfl kI_tp <| s_nil <| s_ret <| x_sub <| x_at (g_th g_here) iv2 ha (v:=.ref P1.rg) rfl <| x_var g_here <| get_dict e2 m2 (k:=r) rfl kI_tp (if_pos rfl) (hq P1 _ ha iv2 (kp1.trans (KeepV.set rg_ft)))
end
end Mini
end
section
namespace Mini
open PySem PySem.W PyProof.Rows
section
variable {σ:Store} {P:VP} {S:VS} {B:Nat} {Γ:GE}
noncomputable def VS.const (S:VS) (v:Int):Int × VS:=match S.numbers v with
 | some n => (n, S)
 | none => (S.count + 1, { S.fresh with numbers:=upd S.numbers v (S.count + 1), consts:=upd S.consts (S.count + 1) v })
noncomputable def sp_const:Spec:=fun vs σ Q => ∃ P S B v, vs = [.ref P.a, .int v] ∧ Runs P S B (B + 1) (S.const v).2 σ (Q (.int (S.const v).1))
theorem ok_const (hfr:Γ.meth "fresh" = some sp_fresh) {vs:List V} {σ:Store} {Q:V → Store → Prop} (h:sp_const vs σ Q):wBody Γ ["self", "value"] b_V_const vs σ Q:=by
 obtain ⟨P, S, B, r, rfl, iv, hB, hq⟩:=h
 refine body_intro rfl ?_
 obtain ⟨es, e, m⟩:=iv.nm
 unfold VS.const at hq
 have hB':=Nat.le_trans (Nat.le_of_succ_le hB) (by decide:50000 ≤ 100000)
 refine s_if <| t_cmp <| x_var g_here <| x_at (g_th g_here) iv rfl (v:=.ref P.nm) rfl <| c_notin <| in_dict e m (k:=r) rfl kI_tp ?_
 cases hr:S.numbers r with
 | some n =>
  rw [hr] at hq
  exact ifF rfl <| s_ret <| x_sub <| x_at (g_th g_here) iv rfl (v:=.ref P.nm) rfl <| x_var g_here <| get_dict e m (k:=r) rfl kI_tp hr (hq P σ rfl (iv.up (Nat.le_succ B)) (KeepV.refl _ _))
 | none =>
  rw [hr] at hq
  refine ifT rfl <| s_sub <| x_own (g_th g_here) iv rfl hfr rfl <| xs_nil ⟨P, S, B, rfl, iv, Nat.le_of_succ_le hB, fun P1 σ1 ha iv1 kp1 => ?_⟩
  obtain ⟨es1, e1, m1⟩:=iv1.nm
  have iv2:=(iv1.up (Nat.le_succ B)).set_nm (m1.set kI_inj r (S.count + 1))
  obtain ⟨es2, e2, m2⟩:=iv2.nm
  have kp2:=kp1.trans (KeepV.set (P:=P1) (o:=.dict (aset es1 (kI r) (.int (S.count + 1)))) (b:=P1.nm) nm_ft)
  obtain ⟨es3, e3, m3⟩:=iv1.cs
  have e3':((σ1.set P1.nm (.dict (aset es1 (kI r) (.int (S.count + 1))))) P1.cs) = some (.dict es3):=by
   obtain ⟨_, _, _, _, _, _, _, _, _, _, _, _, _, _, _, d1, _⟩:=VP.ne iv1.apart
   rw [set_ne d1]; exact e3
  have iv3:=iv2.set_cs (m3.set kI_inj (S.count + 1) r)
  obtain ⟨es4, e4, m4⟩:=iv3.nm
  exact x_at (g_th g_here) iv1 ha (v:=.ref P1.nm) rfl <| x_var g_here <| set_dict e1 m1 hB' (k:=r) rfl kI_tp <| s_sub <| x_var g_here <| x_at (g_th g_here) iv2 ha (v:=.ref P1.cs) rfl <| x_sub <| x_at (g_th g_here) iv2 ha (v:=.ref P1.nm) rfl <| x_var g_here <| get_dict e2 m2 (k:=r) rfl kI_tp (i:=S.count + 1) (if_pos rfl) <| set_dict e3' m3 hB' (k:=S.count + 1) rfl kI_tp <| s_nil <| s_ret <| x_sub <| x_at (g_th g_here) iv3 ha (v:=.ref P1.nm) rfl <| x_var g_here <| get_dict e4 m4 (k:=r) rfl kI_tp (i:=S.count + 1) (if_pos rfl) (hq P1 _ ha iv3 (kp2.trans (KeepV.set cs_ft)))
noncomputable def holdAt (f:Int → Option Int) (n but:Int):List Int → Int
 | [] => -1
 | r :: rs => if r ≠ but ∧ (f r).getD 0 = n then r else holdAt f n but rs
noncomputable def regs16:List Int:=[0, 1, 2, 3, 4, 5, 6, 7, 8, 9, 10, 11, 12, 13, 14, 15]
noncomputable def VS.holder (S:VS) (n but:Int):Int:=holdAt S.regs n but regs16
noncomputable def sp_holder:Spec:=fun vs σ Q => ∃ P S B n but, vs = [.ref P.a, .int n, .int but] ∧ IsV σ P S B ∧ Q (.int (S.holder n but)) σ
noncomputable def holdBody:List Mini.S:=[.ite (.boolop false [(.cmp .NotEq (.var "register") (.var "but")), (.cmp .Eq (.meth (.attr (.var "self") "regs") "get" [(.var "register"), (.lit (.int (0)))]) (.var "number"))]) [.ret (.var "register")] []]
theorem hold_turn {n but r:Int} {ρ:Loc} {K:Fl → Loc → Store → Prop} (iv:IsV σ P S B) (s1:ρ.get "self" = some (.ref P.a)) (s2:ρ.get "number" = some (.int n)) (s3:ρ.get "but" = some (.int but)) (s4:ρ.get "register" = some (.int r))
  (h1:(r ≠ but ∧ (S.regs r).getD 0 = n) → K (.ret (.int r)) ρ σ) (h2:¬ (r ≠ but ∧ (S.regs r).getD 0 = n) → K .next ρ σ):wSs Γ holdBody ρ σ K:=by
 obtain ⟨es, e, m⟩:=iv.rg
 refine s_if <| t_bool <| ts_cons <| t_cmp <| x_var s4 <| x_var s3 <| c_nei ?_
 by_cases hb:r = but
 ·exact ifnF (by rw [decide_eq_true hb]; rfl) <| ifF rfl <| s_nil <| h2 fun z => z.1 hb
 ·exact ifnT (by rw [decide_eq_false hb]; rfl) <| ts_cons <| t_cmp <| x_meth <| x_at s1 iv rfl (v:=.ref P.rg) rfl <| dict_kind e <| xs_cons <| x_var s4 <| xs_cons <| x_lit <| xs_nil <| getd_dict e m (k:=r) (i:=0) rfl kI_tp <| x_var s2 <| c_eqi <| ifnD (fun hn => ifF rfl <| s_nil <| h2 fun z => hn z.2) fun hn => ts_nil <| ifT rfl <| s_ret <| x_var s4 <| h1 ⟨hb, hn⟩
theorem hold_yes {f:Int → Option Int} {n but r:Int} {rs:List Int} (h:r ≠ but ∧ (f r).getD 0 = n):holdAt f n but (r :: rs) = r:=if_pos h
theorem hold_no {f:Int → Option Int} {n but r:Int} {rs:List Int} (h:¬ (r ≠ but ∧ (f r).getD 0 = n)):holdAt f n but (r :: rs) = holdAt f n but rs:=if_neg h
theorem hold_loop {n but:Int} {K:Fl → Loc → Store → Prop} (iv:IsV σ P S B):∀ (rs:List Int) (ρ:Loc), ρ.get "self" = some (.ref P.a) → ρ.get "number" = some (.int n) → ρ.get "but" = some (.int but) →
  (∀ ρ', holdAt S.regs n but rs = -1 → K .next ρ' σ) → (∀ ρ' r, r ∈ rs → holdAt S.regs n but rs = r → K (.ret (.int r)) ρ' σ) → forLoop (fun _ => True) (fun ρ' σ' Q' => wSs Γ holdBody ρ' σ' Q') "register" (rs.map V.int) ρ σ K:=by
 intro rs
 induction rs with
 | nil => intro ρ _ _ _ q _; exact fl_nil trivial (q ρ rfl)
 | cons r rs ih =>
  intro ρ g1 g2 g3 q q'
  exact fl_cons trivial <| hold_turn iv (g_th g1) (g_th g2) (g_th g3) g_here (fun z => ⟨trivial, q' _ r List.mem_cons_self (hold_yes z)⟩) fun nh => ih _ (g_th g1) (g_th g2) (g_th g3) (fun ρ' h => q ρ' ((hold_no nh).trans h)) fun ρ' x hx h => q' ρ' x (List.mem_cons_of_mem _ hx) ((hold_no nh).trans h)
theorem hold_ge {f:Int → Option Int} {n but:Int} {rs:List Int}:holdAt f n but rs = -1 ∨ holdAt f n but rs ∈ rs:=by
 induction rs with
 | nil => exact .inl rfl
 | cons r rs ih =>
  by_cases h:r ≠ but ∧ (f r).getD 0 = n
  ·rw [hold_yes h]; exact .inr List.mem_cons_self
  ·rw [hold_no h]; exact ih.imp_right (List.mem_cons_of_mem _)
theorem ok_holder {vs:List V} {σ:Store} {Q:V → Store → Prop} (h:sp_holder vs σ Q):wBody Γ ["self", "number", "but"] b_V_holder vs σ Q:=by
 obtain ⟨P, S, B, n, but, rfl, iv, hq⟩:=h
 refine body_intro rfl ?_
 unfold VS.holder at hq
 have rg:rangeInts 0 16 1 = regs16.map V.int:=by rfl
 show wSs Γ [.for_ "register" (.range [(.lit (.int (16)))]) holdBody, .ret (.neg (.lit (.int (1))))] _ _ _
 refine s_for <| i_range <| xs_cons <| x_lit <| xs_nil <| r_one (by decide) ?_
 rw [rg]
 refine hold_loop (n:=n) (but:=but) iv regs16 _ (g_th (g_th g_here)) (g_th g_here) g_here (fun ρ' h => ?_) (fun ρ' r hr h => ?_)
 ·rw [h] at hq; exact s_ret <| x_neg hq
 ·rw [h] at hq; exact hq
end
end Mini
end
section
namespace Mini
open PySem PySem.W PyProof.Rows
noncomputable def VS.empty:VS:=⟨0, fun _ => none, fun _ => none, fun _ => none, fun _ => none, fun _ => none⟩
noncomputable def sp_init:Spec:=fun vs σ Q => ∃ a dx, vs = [.ref a] ∧ σ a = some (.inst dx) ∧ σ dx = some (.attrs []) ∧ a ≠ dx ∧
 ∀ P σ', P.a = a → P.dx = dx → IsV σ' P VS.empty 0 → (∀ b o, σ b = some o → b ≠ dx → σ' b = some o) → (∀ b ∈ P.foot, b = dx ∨ σ b = none) → Q .none σ'
structure Stg (σ τ:Store) (a dx:Addr) (es:List (Str × V)) (ds:List Addr):Prop where
 inst:τ a = some (.inst dx)
 dict:τ dx = some (.attrs es)
 ne:a ≠ dx
 each:∀ d ∈ ds, τ d = some (.dict []) ∧ σ d = none ∧ d ≠ a ∧ d ≠ dx
 nd:ds.Nodup
 keep:∀ b o, σ b = some o → b ≠ dx → τ b = some o
 fresh:∀ b, τ b = none → σ b = none
section
variable {Γ:GE} {vs:List V} {σ:Store} {Q:V → Store → Prop}
theorem setA {a dx:Addr} {es:List (Str × V)} {x:Str} {v:V} {K:Store → Prop} (h1:σ a = some (.inst dx)) (h2:σ dx = some (.attrs es)) (hz:es.length ≤ 100) (q:K (σ.set dx (.attrs (aput es x v)))):setAttrW (.ref a) x v σ K:=⟨dx, es, h1, h2, hz, q⟩
theorem Stg.step {τ:Store} {a dx:Addr} {es:List (Str × V)} {ds:List Addr} {x:Str} {K:Store → Prop} (s:Stg σ τ a dx es ds) (hz:es.length ≤ 100) {b:Addr} (hb:τ b = none) (h:∀ τ', Stg σ τ' a dx (aput es x (.ref b)) (b :: ds) → K τ') :
  setAttrW (.ref a) x (.ref b) (τ.set b (.dict [])) K:=by
 have n1:b ≠ a:=fun z => by subst z; rw [s.inst] at hb; cases hb
 have n2:b ≠ dx:=fun z => by subst z; rw [s.dict] at hb; cases hb
 refine setA (by rw [set_ne n1.symm]; exact s.inst) (by rw [set_ne n2.symm]; exact s.dict) hz (h _ ⟨?_, set_eq, s.ne, ?_, ?_, ?_, ?_⟩)
 ·rw [set_ne s.ne, set_ne n1.symm]; exact s.inst
 ·intro d hd
  rcases List.mem_cons.mp hd with rfl | hd
  ·exact ⟨by rw [set_ne n2, set_eq], s.fresh d hb, n1, n2⟩
  ·obtain ⟨q1, q2, q3, q4⟩:=s.each d hd
   have:d ≠ b:=fun z => by subst z; rw [q1] at hb; cases hb
   exact ⟨by rw [set_ne q4, set_ne this]; exact q1, q2, q3, q4⟩
 ·refine List.nodup_cons.mpr ⟨fun hd => ?_, s.nd⟩
  rw [(s.each b hd).1] at hb; cases hb
 ·intro y o e hy
  have:y ≠ b:=fun z => by subst z; rw [s.keep y o e hy] at hb; cases hb
  rw [set_ne hy, set_ne this]; exact s.keep y o e hy
 ·intro y hy
  have h1:y ≠ dx:=fun z => by subst z; rw [set_eq] at hy; cases hy
  rw [set_ne h1] at hy
  have h2:y ≠ b:=fun z => by subst z; rw [set_eq] at hy; cases hy
  rw [set_ne h2] at hy
  exact s.fresh y hy
theorem ok_init (h:sp_init vs σ Q):wBody Γ ["self"] b_V___init__ vs σ Q:=by
 obtain ⟨a, dx, rfl, h1, h2, h3, hq⟩:=h
 refine body_intro rfl ?_
 have s0:Stg σ (σ.set dx (.attrs (aput [] "count" (.int 0)))) a dx [("count", .int 0)] [] :=
  ⟨(set_ne h3).trans h1, set_eq, h3, (fun d hd => nomatch hd), List.nodup_nil, fun b o e hb => (set_ne hb).trans e, fun b hb => (free_of hb).2⟩
 unfold b_V___init__
 refine s_attr <| x_lit <| x_var g_here <| setA h1 h2 (by decide) <| s_attr <| x_empty fun r hr => x_var g_here <| s0.step (by decide) hr fun τ1 s1 => s_attr <| x_empty fun c hc => x_var g_here <| s1.step (Nat.le_of_ble_eq_true rfl) hc fun τ2 s2 => s_attr <| x_empty fun n hn => x_var g_here <| s2.step (Nat.le_of_ble_eq_true rfl) hn fun τ3 s3 => s_attr <| x_empty fun t ht => x_var g_here <| s3.step (Nat.le_of_ble_eq_true rfl) ht fun τ4 s4 => s_attr <| x_empty fun w hw => x_var g_here <| s4.step (Nat.le_of_ble_eq_true rfl) hw fun τ5 s5 => s_nil ?_
 have e:τ5 dx = some (.attrs (VP.attrs ⟨a, dx, r, c, n, t, w⟩ 0)):=by
  rw [s5.dict]; rfl
 have d:=s5.each
 obtain ⟨w1, w2, w3, w4⟩:=d w (.head _)
 obtain ⟨t1, t2, t3, t4⟩:=d t (.tail _ (.head _))
 obtain ⟨n1, n2, n3, n4⟩:=d n (.tail _ (.tail _ (.head _)))
 obtain ⟨c1, c2, c3, c4⟩:=d c (.tail _ (.tail _ (.tail _ (.head _))))
 obtain ⟨r1, r2, r3, r4⟩:=d r (.tail _ (.tail _ (.tail _ (.tail _ (.head _)))))
 have nd5:=List.nodup_cons.mp s5.nd
 have nd4:=List.nodup_cons.mp nd5.2
 have nd3:=List.nodup_cons.mp nd4.2
 have nd2:=List.nodup_cons.mp nd3.2
 have ne:∀ {x y:Addr} {l:List Addr}, x ∉ l → y ∈ l → y ≠ x:=fun h1 h2 z => h1 (z ▸ h2)
 refine hq ⟨a, dx, r, c, n, t, w⟩ τ5 rfl rfl ⟨s5.inst, e, ?_, ⟨[], r1, MapK.nil⟩, ⟨[], c1, MapK.nil⟩, ⟨[], n1, MapK.nil⟩, ⟨[], t1, MapK.nil⟩, ⟨[], w1, MapK.nil⟩⟩ s5.keep ?_
 ·have nil:∀ x:Addr, x ∉ ([]:List Addr):=fun x hx => nomatch hx
  have cons:∀ {x y:Addr} {l:List Addr}, x ≠ y → x ∉ l → x ∉ y :: l:=fun h1 h2 h => (List.mem_cons.mp h).elim h1 h2
  refine List.nodup_cons.mpr ⟨cons h3 (cons r3.symm (cons c3.symm (cons n3.symm (cons t3.symm (cons w3.symm (nil _)))))), List.nodup_cons.mpr ⟨cons r4.symm (cons c4.symm (cons n4.symm (cons t4.symm (cons w4.symm (nil _))))), List.nodup_cons.mpr ⟨?_, List.nodup_cons.mpr ⟨?_, List.nodup_cons.mpr ⟨?_, List.nodup_cons.mpr ⟨?_, List.nodup_cons.mpr ⟨nil _, List.nodup_nil⟩⟩⟩⟩⟩⟩⟩
  ·exact cons (ne nd2.1 (.head _)) (cons (ne nd3.1 (.tail _ (.head _))) (cons (ne nd4.1 (.tail _ (.tail _ (.head _)))) (cons (ne nd5.1 (.tail _ (.tail _ (.tail _ (.head _))))) (nil _))))
  ·exact cons (ne nd3.1 (.head _)) (cons (ne nd4.1 (.tail _ (.head _))) (cons (ne nd5.1 (.tail _ (.tail _ (.head _)))) (nil _)))
  ·exact cons (ne nd4.1 (.head _)) (cons (ne nd5.1 (.tail _ (.head _))) (nil _))
  ·exact cons (ne nd5.1 (.head _)) (nil _)
 ·intro b hb
  rcases List.mem_cons.mp hb with rfl | hb
  ·exact .inl rfl
  rcases List.mem_cons.mp hb with rfl | hb
  ·exact .inr r2
  rcases List.mem_cons.mp hb with rfl | hb
  ·exact .inr c2
  rcases List.mem_cons.mp hb with rfl | hb
  ·exact .inr n2
  rcases List.mem_cons.mp hb with rfl | hb
  ·exact .inr t2
  ·rw [List.mem_singleton.mp hb]; exact .inr w2
noncomputable def sp_Values:Spec:=fun vs σ Q => vs = [] ∧ ∀ P σ', IsV σ' P VS.empty 0 → Ext σ σ' → (∀ b ∈ P.all, σ b = none) → Q (.ref P.a) σ'
theorem values_of_init {vs:List V} {σ:Store} {Q:V → Store → Prop} (h:sp_Values vs σ Q):newSpec sp_init vs σ Q:=by
 obtain ⟨rfl, hq⟩:=h
 refine ⟨rfl, fun b dx hb hd ne => ⟨b, dx, rfl, set_eq, by rw [set_ne ne.symm, set_eq], ne, fun P σ' e1 e2 iv kp ft => ⟨rfl, ?_⟩⟩⟩
 have old:∀ y, ((σ.set dx (.attrs [])).set b (.inst dx)) y = none → σ y = none:=fun y hy => by
  have h1:y ≠ b:=fun z => by subst z; rw [set_eq] at hy; cases hy
  rw [set_ne h1] at hy
  have h2:y ≠ dx:=fun z => by subst z; rw [set_eq] at hy; cases hy
  rw [set_ne h2] at hy; exact hy
 rw [← e1]
 refine hq P σ' iv (fun y o e => ?_) fun y hy => ?_
 ·have h1:y ≠ b:=fun z => by subst z; rw [hb] at e; cases e
  have h2:y ≠ dx:=fun z => by subst z; rw [hd] at e; cases e
  exact kp y o (by rw [set_ne h1, set_ne h2]; exact e) h2
 ·rcases List.mem_cons.mp (show y ∈ P.a :: P.foot from hy) with rfl | hy
  ·rw [e1]; exact hb
  ·rcases ft y hy with rfl | q
   ·exact hd
   ·exact old y q
end
end Mini
end
section
namespace Mini
open PySem PySem.W PyProof.Rows
noncomputable def VS.key (nm:Str) (l r:Int):Str × Int × Int:=if evenH nm = true ∧ r < l then (nm, r, l) else (nm, l, r)
noncomputable def VS.tabled (S:VS) (k:Str × Int × Int):Int × VS:=match S.table k with
 | some n => (n, S)
 | none => (S.count + 1, { S.fresh with table:=upd S.table k (S.count + 1) })
noncomputable def VS.calculated (S:VS) (nm:Str) (l r:Int):Int × VS:=match S.consts l, S.consts r with
 | some x, some y => S.const (alu nm x y)
 | _, _ => S.tabled (VS.key nm l r)
noncomputable def sp_calculated:Spec:=fun vs σ Q => ∃ P S B nm l r, vs = [.ref P.a, .str nm, .int l, .int r] ∧ OpNm nm ∧ (∀ n x, S.consts n = some x → Rg x) ∧ Runs P S B (B + 1) (S.calculated nm l r).2 σ (Q (.int (S.calculated nm l r).1))
section
variable {σ:Store} {P:VP} {S:VS} {B:Nat} {Γ:GE}
theorem key_v (x:Str × Int × Int):(V.tup [.str x.1, .int x.2.1, .int x.2.2]).key? = some (kT x):=rfl
noncomputable def calcTail:List Mini.S:=[.ite (.cmp .NotIn (.var "key") (.attr (.var "self") "table")) [.setSub (.attr (.var "self") "table") (.var "key") (.meth (.var "self") "fresh" [])] [], .ret (.sub (.attr (.var "self") "table") (.var "key"))]
theorem le_dict {n:Nat} (h:n + 1 ≤ 50000):n ≤ 100000:=Nat.le_trans (Nat.le_of_succ_le h) (by decide)
theorem calc_tail (hfr:Γ.meth "fresh" = some sp_fresh) {ρ:Loc} {k:Str × Int × Int} {Q:V → Store → Prop} (g1:ρ.get "self" = some (.ref P.a)) (g2:ρ.get "key" = some (.tup [.str k.1, .int k.2.1, .int k.2.2])) (h:Runs P S B (B + 1) (S.tabled k).2 σ (Q (.int (S.tabled k).1))) :
  wSs Γ calcTail ρ σ (fun f _ σ' => match f with | .ret v => Q v σ' | .next => Q .none σ' | .cont => False):=by
 obtain ⟨iv, hB, hq⟩:=h
 obtain ⟨es, e, m⟩:=iv.tb
 unfold VS.tabled at hq
 refine s_if <| t_cmp <| x_var g2 <| x_at g1 iv rfl (v:=.ref P.tb) rfl <| c_notin <| in_dict e m (key_v k) kT_tp ?_
 cases hr:S.table k with
 | some n =>
  rw [hr] at hq
  exact ifF rfl <| s_ret <| x_sub <| x_at g1 iv rfl (v:=.ref P.tb) rfl <| x_var g2 <| get_dict e m (key_v k) kT_tp hr (hq P σ rfl (iv.up (Nat.le_succ B)) (KeepV.refl _ _))
 | none =>
  rw [hr] at hq
  refine ifT rfl <| s_sub <| x_own g1 iv rfl hfr rfl <| xs_nil ⟨P, S, B, rfl, iv, Nat.le_of_succ_le hB, fun P1 σ1 ha iv1 kp1 => ?_⟩
  obtain ⟨es1, e1, m1⟩:=iv1.tb
  have iv2:=(iv1.up (Nat.le_succ B)).set_tb (m1.set kT_inj k (S.count + 1))
  obtain ⟨es2, e2, m2⟩:=iv2.tb
  exact x_at g1 iv1 ha (v:=.ref P1.tb) rfl <| x_var g2 <| set_dict e1 m1 (le_dict hB) (key_v k) kT_tp <| s_nil <| s_ret <| x_sub <| x_at g1 iv2 ha (v:=.ref P1.tb) rfl <| x_var g2 <| get_dict e2 m2 (key_v k) kT_tp (if_pos rfl) (hq P1 _ ha iv2 (kp1.trans (KeepV.set tb_ft)))
noncomputable def calcMid:List Mini.S:=[.assign "key" (.tup [(.var "name"), (.var "left"), (.var "right")]), .ite (.boolop false [(.call "is_even_handed" [(.var "name")]), (.cmp .Lt (.var "right") (.var "left"))]) [.assign "key" (.tup [(.var "name"), (.var "right"), (.var "left")])] []] ++ calcTail
theorem calc_mid (hfr:Γ.meth "fresh" = some sp_fresh) (he:Γ.fn "is_even_handed" = some (sp_str (fun s => .bool (evenH s)))) {ρ:Loc} {nm:Str} {l r:Int} {Q:V → Store → Prop} (g1:ρ.get "self" = some (.ref P.a)) (g2:ρ.get "name" = some (.str nm)) (g3:ρ.get "left" = some (.int l)) (g4:ρ.get "right" = some (.int r))
  (h:Runs P S B (B + 1) (S.tabled (VS.key nm l r)).2 σ (Q (.int (S.tabled (VS.key nm l r)).1))):wSs Γ calcMid ρ σ (fun f _ σ' => match f with | .ret v => Q v σ' | .next => Q .none σ' | .cont => False):=by
 have no:¬ (evenH nm = true ∧ r < l) → wSs Γ calcTail (ρ.set "key" (.tup [.str nm, .int l, .int r])) σ (fun f _ σ' => match f with | .ret v => Q v σ' | .next => Q .none σ' | .cont => False):=fun z => by
  have e:VS.key nm l r = (nm, l, r):=if_neg z
  rw [e] at h
  exact calc_tail hfr (k:=(nm, l, r)) (g_th g1) g_here h
 refine s_assign <| x_tup <| xs_cons <| x_var g2 <| xs_cons <| x_var g3 <| xs_cons <| x_var g4 <| xs_nil <| s_if <| t_bool <| ts_cons <| t_call he <| xs_cons <| x_var (g_th g2) <| xs_nil ⟨nm, rfl, truth <| ifnC (fun h1 => ifF rfl <| no fun z => Bool.false_ne_true (h1.symm.trans z.1)) fun h1 => ts_cons <| t_cmp <| x_var (g_th g4) <| x_var (g_th g3) <| c_lt <| ifnD (fun h2 => ifF rfl <| no fun z => h2 z.2) fun h2 => ts_nil <| ifT rfl ?_⟩
 have e:VS.key nm l r = (nm, r, l):=if_pos ⟨h1, h2⟩
 rw [e] at h
 exact s_assign <| x_tup <| xs_cons <| x_var (g_th g2) <| xs_cons <| x_var (g_th g4) <| xs_cons <| x_var (g_th g3) <| xs_nil <| s_nil <| calc_tail hfr (k:=(nm, r, l)) (g_th (g_th g1)) g_here h
theorem ok_calculated (hfr:Γ.meth "fresh" = some sp_fresh) (hc:Γ.meth "const" = some sp_const) (he:Γ.fn "is_even_handed" = some (sp_str (fun s => .bool (evenH s)))) (ho:Γ.fn "operate" = some sp_operate) {vs:List V} {σ:Store} {Q:V → Store → Prop} (h:sp_calculated vs σ Q) :
  wBody Γ ["self", "name", "left", "right"] b_V_calculated vs σ Q:=by
 obtain ⟨P, S, B, nm, l, r, rfl, hn, hrg, hR⟩:=h
 refine body_intro rfl ?_
 have iv:=hR.1
 obtain ⟨es, e, m⟩:=iv.cs
 show wSs Γ ((.ite (.boolop false [(.cmp .In (.var "left") (.attr (.var "self") "consts")), (.cmp .In (.var "right") (.attr (.var "self") "consts"))]) [.assign "found" (.call "operate" [(.var "name"), (.sub (.attr (.var "self") "consts") (.var "left")), (.sub (.attr (.var "self") "consts") (.var "right"))]), .ite (.cmp .IsNot (.var "found") (.lit .none)) [.ret (.meth (.var "self") "const" [(.sub (.var "found") (.lit (.int (0))))])] []] []) :: calcMid) _ σ _
 generalize hρ:((((Loc.set [] "self" (V.ref P.a)).set "name" (.str nm)).set "left" (.int l)).set "right" (.int r)) = ρ
 have g1:ρ.get "self" = some (.ref P.a):=hρ ▸ g_th (g_th (g_th g_here))
 have g2:ρ.get "name" = some (.str nm):=hρ ▸ g_th (g_th g_here)
 have g3:ρ.get "left" = some (.int l):=hρ ▸ g_th g_here
 have g4:ρ.get "right" = some (.int r):=hρ ▸ g_here
 have mid:(S.calculated nm l r = S.tabled (VS.key nm l r)) → wSs Γ calcMid ρ σ (fun f _ σ' => match f with | .ret v => Q v σ' | .next => Q .none σ' | .cont => False):=fun z => by
  rw [z] at hR
  exact calc_mid hfr he g1 g2 g3 g4 hR
 refine s_if <| t_bool <| ts_cons <| t_cmp <| x_var g3 <| x_at g1 iv rfl (v:=.ref P.cs) rfl <| c_in <| in_dict e m (k:=l) rfl kI_tp ?_
 cases hl:S.consts l with
 | none => exact ifnF rfl <| ifF rfl <| mid (by unfold VS.calculated; rw [hl])
 | some x =>
  refine ifnT rfl <| ts_cons <| t_cmp <| x_var g4 <| x_at g1 iv rfl (v:=.ref P.cs) rfl <| c_in <| in_dict e m (k:=r) rfl kI_tp ?_
  cases hr:S.consts r with
  | none => exact ifnF rfl <| ifF rfl <| mid (by unfold VS.calculated; rw [hl, hr])
  | some y =>
   refine ifnT rfl <| ts_nil <| ifT rfl <| s_assign <| x_call ho <| xs_cons <| x_var g2 <| xs_cons <| x_sub <| x_at g1 iv rfl (v:=.ref P.cs) rfl <| x_var g3 <| get_dict e m (k:=l) rfl kI_tp hl <| xs_cons <| x_sub <| x_at g1 iv rfl (v:=.ref P.cs) rfl <| x_var g4 <| get_dict e m (k:=r) rfl kI_tp hr <| xs_nil ⟨nm, x, y, rfl, hn, hrg _ _ hl, hrg _ _ hr, fun rest hrest => ?_⟩
   have z:S.calculated nm l r = S.const (alu nm x y):=by unfold VS.calculated; rw [hl, hr]
   rw [z] at hR
   exact s_if <| t_cmp <| x_var g_here <| x_lit <| c_isnot <| ifT rfl <| s_ret <| x_own (g_th g1) iv rfl hc rfl <| xs_cons <| x_sub <| x_var g_here <| x_lit ⟨0, .int (alu nm x y), pyIdx_nat (by rw [List.length_cons, hrest]; decide) (Nat.succ_pos _), rfl, xs_nil ⟨P, S, B, _, rfl, hR⟩⟩
end
end Mini
end
section
namespace Mini
open PySem PySem.W PyProof.Rows
noncomputable def VS.Ok (S:VS):Prop:=∀ n x, S.consts n = some x → Rg x
theorem VS.Ok.of {S:VS} (h:S.Ok) (r:Int):(S.of r).2.Ok:=by
 unfold VS.of; cases q:S.regs r with
 | some n => exact h
 | none => exact h
theorem VS.Ok.const {S:VS} (h:S.Ok) {v:Int} (hv:Rg v):(S.const v).2.Ok:=by
 unfold VS.const; cases q:S.numbers v with
 | some n => exact h
 | none =>
  intro n x hx
  simp only [upd] at hx
  split at hx
  ·cases hx; exact hv
  ·exact h n x hx
noncomputable def VS.result (S:VS):Kd → Int → Int → Int → Int × VS
 | .mov, _, _, d => S.of d
 | .movi, _, _, d => S.const (d % 4294967296)
 | .movh, _, _, d => S.const (d * 65536)
 | .op o, _, b, d => ((S.of b).2.of d).2.calculated o.nm (S.of b).1 ((S.of b).2.of d).1
 | .opi o, _, b, d => ((S.of b).2.const (d % 4294967296)).2.calculated o.nm (S.of b).1 ((S.of b).2.const (d % 4294967296)).1
 | _, _, _, _ => (S.count + 1, S.fresh)
noncomputable def sp_result:Spec:=fun vs σ Q => ∃ P S B k a b d, vs = [.ref P.a, Row.v (.ins k a b d)] ∧ S.Ok ∧ (k = .movh → Rg (d * 65536)) ∧ Runs P S B (B + 3) (S.result k a b d).2 σ (Q (.int (S.result k a b d).1))
theorem fmod_word (d:Int):d.fmod 4294967296 = d % 4294967296:=by
 rw [Int.fmod_eq_emod_of_nonneg]; decide
theorem Runs.le {P:VP} {S S':VS} {B B' B'':Nat} {σ:Store} {K:Store → Prop} (h:Runs P S B B'' S' σ K) (l:B' ≤ B''):Runs P S B B' S' σ K :=
 ⟨h.1, Nat.le_trans l h.2.1, fun P' σ' e iv kp => h.2.2 P' σ' e (iv.up l) kp⟩
section
variable {Γ:GE} {vs:List V} {σ:Store} {Q:V → Store → Prop}
theorem f_div:∀ k ∈ allKd, k.base ≠ Str.ofString "DIV":=by decide +kernel
theorem f_none:∀ k ∈ allKd, k.base = Str.ofString "" → k ≠ .mov → k ≠ .movi → k ≠ .movh → k = .ldr ∨ k = .ldb ∨ k = .str ∨ k = .stb ∨ k = .geth:=by decide +kernel
theorem f_some:∀ k ∈ allKd, k.base ≠ Str.ofString "" → ∃ o ∈ [Op.add, .sub, .mul, .and_, .xor, .lsl], k = .op o ∨ k = .opi o:=by decide +kernel
theorem f_opI:∀ o ∈ [Op.add, .sub, .mul, .and_, .xor, .lsl], o.nmI ≠ o.nm:=by decide +kernel
theorem f_op (o:Op):OpNm o.nm:=by cases o <;> simp [OpNm, Op.nm]
theorem result_none {S:VS} {k:Kd} {a b d:Int} (h:k.base = Str.ofString "") (k1:k ≠ .mov) (k2:k ≠ .movi) (k3:k ≠ .movh):S.result k a b d = (S.count + 1, S.fresh):=by
 rcases f_none k (mem_allKd k) h k1 k2 k3 with rfl | rfl | rfl | rfl | rfl <;> rfl
theorem res_tail (hfr:Γ.meth "fresh" = some sp_fresh) (hof:Γ.meth "of" = some sp_of) (hc:Γ.meth "const" = some sp_const) (hca:Γ.meth "calculated" = some sp_calculated) (hw:Γ.glob "WORD" = some (.int 4294967296)) {P:VP} {S:VS} {B:Nat} {k:Kd} {a b d:Int} {ρ:Loc} (hS:S.Ok)
  (hR:Runs P S B (B + 3) (S.result k a b d).2 σ (Q (.int (S.result k a b d).1))) (k1:k ≠ .mov) (k2:k ≠ .movi) (k3:k ≠ .movh) (q1:ρ.get "values" = some (.ref P.a)) (q2:ρ.get "row" = some (.tup [.str k.nm, .int a, .int b, .int d])) (q3:ρ.get "name" = some (.str k.nm)) (q4:ρ.get "operation" = some (.str k.base)) :
  wSs Γ [.ite (.boolop true [(.cmp .Eq (.var "operation") (.lit (.str ""))), (.cmp .Eq (.var "operation") (.lit (.str "DIV")))]) [.ret (.meth (.var "values") "fresh" [])] [], .assign "left" (.meth (.var "values") "of" [(.sub (.var "row") (.lit (.int (2))))]), .ite (.cmp .Eq (.var "name") (.var "operation")) [.ret (.meth (.var "values") "calculated" [(.var "operation"), (.var "left"), (.meth (.var "values") "of" [(.sub (.var "row") (.lit (.int (3))))])])] [], .ret (.meth (.var "values") "calculated" [(.var "operation"), (.var "left"), (.meth (.var "values") "const" [(.bin .Mod (.sub (.var "row") (.lit (.int (3)))) (.glob "WORD"))])])] ρ σ (RetK Q):=by
 have iv:=hR.1
 have l50:B + 1 ≤ 50000:=Nat.le_trans (Nat.add_le_add_left (by decide) B) hR.2.1
 have l51:B + 1 + 1 ≤ 50000:=Nat.le_trans (Nat.le_succ _) hR.2.1
 refine s_if <| t_bool <| ts_cons <| t_cmp <| x_var q4 <| x_lit <| c_eqs <| ifD (fun e => ifT rfl ?_) fun n4 => ts_cons <| t_cmp <| x_var q4 <| x_lit <| c_eqs <| ifD (fun e => absurd e (f_div k (mem_allKd k))) fun _ => ts_nil <| ifF rfl ?_
 ·rw [result_none e k1 k2 k3] at hR
  exact s_ret <| x_own q1 iv rfl hfr rfl <| xs_nil ⟨P, S, B, rfl, hR.le (Nat.le_add_right B 3)⟩
 obtain ⟨o, ho, hk⟩:=f_some k (mem_allKd k) n4
 refine s_assign <| x_own q1 iv rfl hof rfl <| xs_cons <| v2 q2 <| xs_nil ⟨P, S, B, b, rfl, iv, l50, fun P1 σ1 ha iv1 kp1 => ?_⟩
 refine s_if <| t_cmp <| x_var (g_th q3) <| x_var (g_th q4) <| c_eqs ?_
 rcases hk with z | z
 ·have hr:S.result k a b d = ((S.of b).2.of d).2.calculated o.nm (S.of b).1 ((S.of b).2.of d).1:=by rw [z]; rfl
  have hb:k.base = o.nm:=by rw [z]; rfl
  rw [hr] at hR
  rw [hb] at q4
  refine ifT (decide_eq_true (by rw [z]; rfl)) ?_
  refine s_ret <| x_own (g_th q1) iv1 ha hca rfl <| xs_cons <| x_var (g_th q4) <| xs_cons <| x_var g_here <| xs_cons <| x_own (g_th q1) iv1 ha hof rfl <| xs_cons <| v3 (g_th q2) <| xs_nil ⟨P1, (S.of b).2, B + 1, d, by rw [ha], iv1, l51, fun P2 σ2 ha2 iv2 kp2 => ?_⟩
  exact xs_nil ⟨P2, ((S.of b).2.of d).2, B + 1 + 1, o.nm, _, _, by rw [ha2, ha], f_op o, (hS.of b).of d, iv2, hR.2.1, fun P3 σ3 ha3 iv3 kp3 => hR.2.2 P3 σ3 (ha3.trans (ha2.trans ha)) iv3 ((kp1.trans kp2).trans kp3)⟩
 ·have hr:S.result k a b d = ((S.of b).2.const (d % 4294967296)).2.calculated o.nm (S.of b).1 ((S.of b).2.const (d % 4294967296)).1:=by rw [z]; rfl
  have hb:k.base = o.nm:=by rw [z]; rfl
  rw [hr, ← fmod_word] at hR
  rw [hb] at q4
  refine ifF (decide_eq_false (by rw [z]; exact f_opI o ho)) ?_
  refine s_ret <| x_own (g_th q1) iv1 ha hca rfl <| xs_cons <| x_var (g_th q4) <| xs_cons <| x_var g_here <| xs_cons <| x_own (g_th q1) iv1 ha hc rfl <| xs_cons <| x_bin <| v3 (g_th q2) <| x_glob hw <| n_mod (by decide) <| xs_nil ⟨P1, (S.of b).2, B + 1, _, by rw [ha], iv1, l51, fun P2 σ2 ha2 iv2 kp2 => ?_⟩
  exact xs_nil ⟨P2, ((S.of b).2.const (d.fmod 4294967296)).2, B + 1 + 1, o.nm, _, _, by rw [ha2, ha], f_op o, (hS.of b).const (fmod_word d ▸ mod_rg d), iv2, hR.2.1, fun P3 σ3 ha3 iv3 kp3 => hR.2.2 P3 σ3 (ha3.trans (ha2.trans ha)) iv3 ((kp1.trans kp2).trans kp3)⟩
theorem ok_result (hfr:Γ.meth "fresh" = some sp_fresh) (hof:Γ.meth "of" = some sp_of) (hc:Γ.meth "const" = some sp_const) (hca:Γ.meth "calculated" = some sp_calculated) (hb:Γ.fn "base_name" = some (sp_row fun r => .str r.base)) (hw:Γ.glob "WORD" = some (.int 4294967296)) (h:sp_result vs σ Q) :
  wBody Γ ["values", "row"] b_result_number vs σ Q:=by
 obtain ⟨P, S, B, k, a, b, d, rfl, hS, hm, hR⟩:=h
 have iv:=hR.1
 have hB:=hR.2.1
 have l1:B + 1 ≤ B + 3:=Nat.add_le_add_left (by decide) B
 have l50:B + 1 ≤ 50000:=Nat.le_trans l1 hB
 refine body_intro rfl ?_
 refine s_assign <| v0 (a:=.str k.nm) (b:=.int a) (c:=.int b) (d:=.int d) g_here ?_
 generalize hρ:((Loc.set [] "values" (V.ref P.a)).set "row" (Row.v (.ins k a b d))).set "name" (.str k.nm) = ρ
 have g1:ρ.get "values" = some (.ref P.a):=hρ ▸ g_th (g_th g_here)
 have g2:ρ.get "row" = some (.tup [.str k.nm, .int a, .int b, .int d]):=hρ ▸ g_th g_here
 have g3:ρ.get "name" = some (.str k.nm):=hρ ▸ g_here
 refine s_name g3 (fun e => ?_) fun n1 => s_name g3 (fun e => ?_) fun n2 => s_name g3 (fun e => ?_) fun n3 => ?_
 ·have hr:S.result k a b d = S.of d:=by rw [nm_inj (k2:=.mov) e]; rfl
  rw [hr] at hR
  exact s_ret <| x_own g1 iv rfl hof rfl <| xs_cons <| v3 g2 <| xs_nil ⟨P, S, B, d, rfl, hR.le l1⟩
 ·have hr:S.result k a b d = S.const (d.fmod 4294967296):=by rw [nm_inj (k2:=.movi) e, fmod_word]; rfl
  rw [hr] at hR
  exact s_ret <| x_own g1 iv rfl hc rfl <| xs_cons <| x_bin <| v3 g2 <| x_glob hw <| n_mod (by decide) <| xs_nil ⟨P, S, B, _, rfl, hR.le l1⟩
 ·have hr:S.result k a b d = S.const (d * 65536):=by rw [nm_inj (k2:=.movh) e]; rfl
  rw [hr] at hR
  exact s_ret <| x_own g1 iv rfl hc rfl <| xs_cons <| x_bin <| v3 g2 <| x_lit <| n_mul (.inr (by decide)) <| xs_nil ⟨P, S, B, _, rfl, hR.le l1⟩
 ·have k1:k ≠ .mov:=fun z => n1 (by rw [z]; rfl)
  have k2:k ≠ .movi:=fun z => n2 (by rw [z]; rfl)
  have k3:k ≠ .movh:=fun z => n3 (by rw [z]; rfl)
  refine s_assign <| x_call hb <| xs_cons <| x_var g2 <| xs_nil ⟨.ins k a b d, rfl, res_tail hfr hof hc hca hw hS hR k1 k2 k3 (g_th g1) (g_th g2) (g_th g3) g_here⟩
end
end Mini
end
section
namespace Mini
open PySem PySem.W PyProof.Rows
section
variable {σ σ':Store} {P:VP} {S:VS} {B:Nat} {Γ:GE}
theorem IsV.there (h:IsV σ P S B):∀ b ∈ P.all, (σ b).isSome = true:=by
 intro b hb
 have is:∀ {o:MObj} {x:Addr}, σ x = some o → (σ x).isSome = true:=fun e => by rw [e]; rfl
 have ex:∀ {x:Addr} {p:List (Key × V) → Prop}, (∃ es, σ x = some (.dict es) ∧ p es) → (σ x).isSome = true:=fun ⟨_, e, _⟩ => is e
 rcases List.mem_cons.mp hb with rfl | hb
 ·exact is h.inst
 rcases List.mem_cons.mp hb with rfl | hb
 ·exact is h.dict
 rcases List.mem_cons.mp hb with rfl | hb
 ·exact ex h.rg
 rcases List.mem_cons.mp hb with rfl | hb
 ·exact ex h.cs
 rcases List.mem_cons.mp hb with rfl | hb
 ·exact ex h.nm
 rcases List.mem_cons.mp hb with rfl | hb
 ·exact ex h.tb
 ·rw [List.mem_singleton.mp hb]; exact ex h.wd
theorem ft_all {b:Addr} (h:b ∈ P.foot):b ∈ P.all:=.tail _ h
theorem IsV.frame (h:IsV σ P S B) (e:∀ b ∈ P.all, σ' b = σ b):IsV σ' P S B :=
 ⟨(e _ (.head _)).trans h.inst, (e _ (ft_all dx_ft)).trans h.dict, h.apart, by rw [e _ (ft_all rg_ft)]; exact h.rg, by rw [e _ (ft_all cs_ft)]; exact h.cs, by rw [e _ (ft_all nm_ft)]; exact h.nm, by rw [e _ (ft_all tb_ft)]; exact h.tb, by rw [e _ (ft_all wd_ft)]; exact h.wd⟩
theorem not_v {a b:Addr} (n:a ∉ P.all) (h:b ∈ P.all):a ≠ b:=fun z => n (z ▸ h)
theorem nd_swap {a b c d e f x y:Addr} (h:([a, b, c, d, e, f, x]:List Addr).Nodup) (n:y ∉ ([a, b, c, d, e, f]:List Addr)):([a, b, c, d, e, f, y]:List Addr).Nodup:=by
 have h:([a, b, c, d, e, f] ++ [x]:List Addr).Nodup:=h
 show ([a, b, c, d, e, f] ++ [y]:List Addr).Nodup
 exact List.nodup_append.mpr ⟨(List.nodup_append.mp h).1, List.nodup_cons.mpr ⟨(fun h => nomatch h), List.nodup_nil⟩, fun p hp q hq z => n (by rw [← List.mem_singleton.mp hq, ← z]; exact hp)⟩
theorem IsV.newWords (h:IsV σ P S B) {b:Addr} {ks:List (Key × V)} {f:Int × Int → Option Int} (hb:b ∉ P.all) (hd:σ b = some (.dict ks)) (m:MapK kW f B ks) :
  IsV (σ.set P.dx (.attrs (VP.attrs { P with wd:=b } S.count))) { P with wd:=b } { S with words:=f } B:=by
 obtain ⟨a1, a2, a3, a4, a5, a6, b1, b2, b3, b4, b5, c1, c2, c3, c4, d1, d2, d3, e1, e2, f1⟩:=VP.ne h.apart
 refine ⟨(set_ne a1).trans h.inst, set_eq, ?_, ?_, ?_, ?_, ?_, ⟨ks, (set_ne (not_v hb (ft_all dx_ft))).trans hd, m⟩⟩
 ·exact nd_swap h.apart fun z => hb (by
   show b ∈ ([P.a, P.dx, P.rg, P.cs, P.nm, P.tb] ++ [P.wd]:List Addr)
   exact List.mem_append_left _ z)
 ·show ∃ es, (σ.set P.dx _) P.rg = _ ∧ _; rw [set_ne b1.symm]; exact h.rg
 ·show ∃ es, (σ.set P.dx _) P.cs = _ ∧ _; rw [set_ne b2.symm]; exact h.cs
 ·show ∃ es, (σ.set P.dx _) P.nm = _ ∧ _; rw [set_ne b3.symm]; exact h.nm
 ·show ∃ es, (σ.set P.dx _) P.tb = _ ∧ _; rw [set_ne b4.symm]; exact h.tb
theorem IsV.setA (h:IsV σ P S B) {a:Addr} (ha:P.a = a) {x:Str} {v:V} {K:Store → Prop} (q:K (σ.set P.dx (.attrs (aput (P.attrs S.count) x v)))):setAttrW (.ref a) x v σ K:=⟨P.dx, _, ha ▸ h.inst, h.dict, (by decide:6 ≤ 100), q⟩
theorem keep_words {b:Addr} {o o':MObj} (hb:σ b = none):KeepV P { P with wd:=b } σ ((σ.set b o).set P.dx o'):=by
 refine ⟨fun y o hy hn => ?_, fun y hy hn z => ?_⟩
 ·rw [set_ne (fun z:y = P.dx => hn (z ▸ dx_ft)), set_ne (ne_new hy hb)]; exact hy
 ·rcases List.mem_cons.mp z with rfl | z
  ·exact hn dx_ft
  rcases List.mem_cons.mp z with rfl | z
  ·exact hn rg_ft
  rcases List.mem_cons.mp z with rfl | z
  ·exact hn cs_ft
  rcases List.mem_cons.mp z with rfl | z
  ·exact hn nm_ft
  rcases List.mem_cons.mp z with rfl | z
  ·exact hn tb_ft
  ·rw [List.mem_singleton.mp z, show ({ P with wd:=b }:VP).wd = b from rfl, hb] at hy; exact nomatch hy
noncomputable def VS.fixed (S:VS):Row → VS
 | .ins k a _ _ => if k.store then { S with words:=fun _ => none } else { S.fresh with regs:=upd S.regs a (S.count + 1) }
 | .trap .. => S
noncomputable def sp_fixed:Spec:=fun vs σ Q => ∃ P S B r, vs = [.ref P.a, Row.v r] ∧ Runs P S B (B + 1) (S.fixed r) σ (Q .none)
theorem ok_fixed (hfr:Γ.meth "fresh" = some sp_fresh) (h1:Γ.fn "is_store" = some (sp_row fun r => .bool r.store)) (h2:Γ.fn "is_control" = some (sp_row fun r => .bool r.ctl)) {vs:List V} {σ:Store} {Q:V → Store → Prop} (h:sp_fixed vs σ Q):wBody Γ ["values", "row"] b_fixed_row vs σ Q:=by
 obtain ⟨P, S, B, r, rfl, hR⟩:=h
 obtain ⟨iv, hB, hq⟩:=id hR
 refine body_intro rfl ?_
 refine s_ite <| t_call h1 <| xs_cons <| x_var g_here <| xs_nil ⟨r, rfl, truth ?_⟩
 cases r with
 | trap c n m => exact ifF rfl <| s_if <| t_not <| t_call h2 <| xs_cons <| x_var g_here <| xs_nil ⟨.trap c n m, rfl, truth <| ifF rfl <| s_nil <| hq P σ rfl (iv.up (Nat.le_succ B)) (KeepV.refl _ _)⟩
 | ins k a b d =>
  by_cases hs:k.store = true
  ·refine ifT hs <| s_attr <| x_empty fun x hx => ?_
   have nx:x ∉ P.all:=fun z => by have:=iv.there x z; rw [hx] at this; exact nomatch this
   have iv1:IsV (σ.set x (.dict [])) P S B:=iv.frame fun y hy => set_ne (fun z => nx (z ▸ hy))
   have iv2:=iv1.newWords nx set_eq (MapK.nil (B:=B))
   have ee:S.fixed (.ins k a b d) = { S with words:=fun _ => none }:=if_pos hs
   rw [ee] at hq
   exact x_var (g_th g_here) <| iv1.setA rfl <| s_nil <| hq { P with wd:=x } _ rfl (iv2.up (Nat.le_succ B)) (keep_words hx)
  ·refine ifF (b:=Row.store (.ins k a b d)) ((Bool.not_eq_true k.store).mp hs) <| s_if <| t_not <| t_call h2 <| xs_cons <| x_var g_here <| xs_nil ⟨.ins k a b d, rfl, truth <| ifT rfl ?_⟩
   have ee:S.fixed (.ins k a b d) = { S.fresh with regs:=upd S.regs a (S.count + 1) }:=if_neg hs
   rw [ee] at hq
   have gr:((Loc.set [] "values" (V.ref P.a)).set "row" (Row.v (.ins k a b d))).get "row" = some (.tup [.str k.nm, .int a, .int b, .int d]):=g_here
   refine s_sub <| x_own (g_th g_here) iv rfl hfr rfl <| xs_nil ⟨P, S, B, rfl, iv, Nat.le_of_succ_le hB, fun P1 σ1 ha iv1 kp1 => ?_⟩
   obtain ⟨es1, x1, m1⟩:=iv1.rg
   exact x_at (g_th g_here) iv1 ha (v:=.ref P1.rg) rfl <| v1 gr <| set_dict x1 m1 (le_dict hB) (k:=a) rfl kI_tp <| s_nil <| hq P1 _ ha ((iv1.up (Nat.le_succ B)).set_rg (m1.set kI_inj a (S.count + 1))) (kp1.trans (KeepV.set rg_ft))
end
end Mini
end
section
namespace Mini
open PySem PySem.W PyProof.Rows
noncomputable def VS.imm (S:VS) (k:Kd) (a b d:Int):Row × VS:=match k with
 | .op o => match (S.of d).2.consts (S.of d).1 with
  | some x => match asImm x with
   | some i => (.ins (.opi o) a b i, (S.of d).2)
   | none => (.ins (.op o) a b d, (S.of d).2)
  | none => (.ins (.op o) a b d, (S.of d).2)
 | k => (.ins k a b d, S)
noncomputable def sp_imm:Spec:=fun vs σ Q => ∃ P S B k a b d, vs = [.ref P.a, Row.v (.ins k a b d)] ∧ Runs P S B (B + 1) (S.imm k a b d).2 σ (Q (S.imm k a b d).1.v)
section
variable {σ:Store} {P:VP} {S:VS} {B:Nat} {Γ:GE}
theorem f_nb:∀ k ∈ allKd, (∃ o ∈ [Op.add, .sub, .mul, .and_, .xor, .lsl], k = .op o) ∨ (k.nm ≠ k.base ∧ ∀ o ∈ [Op.add, .sub, .mul, .and_, .xor, .lsl], k ≠ .op o):=by decide +kernel
theorem f_all (o:Op):o ∈ [Op.add, .sub, .mul, .and_, .xor, .lsl]:=by cases o <;> decide +kernel
theorem f_nm0:∀ o ∈ [Op.add, .sub, .mul, .and_, .xor, .lsl], o.nm ≠ Str.ofString "" ∧ o.nm ≠ Str.ofString "DIV" ∧ o.nm ++ Str.ofString "I" = o.nmI ∧ o.nm.length + (Str.ofString "I").length ≤ 1000:=by decide +kernel
theorem n_cat {s t:Str} {Q:V → Store → Prop} (n:s.length + t.length ≤ 1000) (h:Q (.str (s ++ t)) σ):binOp .Add (.str s) (.str t) σ Q:=⟨n, h⟩
theorem imm_same {k:Kd} {a b d:Int} (h:∀ o, k ≠ .op o):S.imm k a b d = (.ins k a b d, S):=by cases k <;> first | rfl | exact absurd rfl (h _)
theorem in_d {α:Type} {enc:α → Key} {f:α → Option Int} {d:Addr} {es:List (Key × V)} {x:V} {k:α} {K:Bool → Prop} (e:σ d = some (.dict es)) (m:MapK enc f B es) (hk:x.key? = some (enc k)) (tp:∀ x y, (enc x).isTp = (enc y).isTp) (q:K (f k).isSome):cmpOp .In x (.ref d) σ K:=c_in (in_dict e m hk tp q)
theorem nin_d {α:Type} {enc:α → Key} {f:α → Option Int} {d:Addr} {es:List (Key × V)} {x:V} {k:α} {K:Bool → Prop} (e:σ d = some (.dict es)) (m:MapK enc f B es) (hk:x.key? = some (enc k)) (tp:∀ x y, (enc x).isTp = (enc y).isTp) (q:K (!(f k).isSome)):cmpOp .NotIn x (.ref d) σ K:=c_notin (in_dict e m hk tp q)
theorem ok_imm (hof:Γ.meth "of" = some sp_of) (ha:Γ.fn "as_immediate" = some sp_as_immediate) (hb:Γ.fn "base_name" = some (sp_row fun r => .str r.base)) {vs:List V} {σ:Store} {Q:V → Store → Prop} (h:sp_imm vs σ Q):wBody Γ ["values", "row"] b_with_immediate vs σ Q:=by
 obtain ⟨P, S, B, k, a, b, d, rfl, hR⟩:=h
 obtain ⟨iv, hB, hq⟩:=id hR
 refine body_intro rfl ?_
 refine s_assign <| v0 (a:=.str k.nm) (b:=.int a) (c:=.int b) (d:=.int d) g_here ?_
 generalize hρ:((Loc.set [] "values" (V.ref P.a)).set "row" (Row.v (.ins k a b d))).set "name" (.str k.nm) = ρ
 have g1:ρ.get "values" = some (.ref P.a):=by rw [← hρ]; exact g_th (g_th g_here)
 have g2:ρ.get "row" = some (.tup [.str k.nm, .int a, .int b, .int d]):=by rw [← hρ]; exact g_th g_here
 have g3:ρ.get "name" = some (.str k.nm):=by rw [← hρ]; exact g_here
 refine s_if <| t_bool <| ts_cons <| t_cmp <| x_var g3 <| x_call hb <| xs_cons <| x_var g2 <| xs_nil ⟨.ins k a b d, rfl, c_nes ?_⟩
 rcases f_nb k (mem_allKd k) with ⟨o, ho, rfl⟩ | ⟨n, hn⟩
 ·obtain ⟨f1, f2, f3, f4⟩:=f_nm0 o ho
  refine ifF (by rw [decide_eq_true (show (Kd.op o).nm = (Row.ins (.op o) a b d).base from rfl)]; rfl) ?_
  refine ts_cons <| t_cmp <| x_var g3 <| x_lit <| c_eqs <| ifF (decide_eq_false f1) <| ts_cons <| t_cmp <| x_var g3 <| x_lit <| c_eqs <| ifF (decide_eq_false f2) <| ts_nil <| ifF rfl ?_
  refine s_assign <| x_own g1 iv rfl hof rfl <| xs_cons <| v3 g2 <| xs_nil ⟨P, S, B, d, rfl, iv, hB, fun P1 σ1 ha1 iv1 kp1 => ?_⟩
  show wSs Γ _ (ρ.set "number" (.int (S.of d).1)) σ1 _
  generalize hρ1:ρ.set "number" (.int (S.of d).1) = ρ1
  have q1:ρ1.get "values" = some (.ref P.a):=by rw [← hρ1]; exact g_th g1
  have q2:ρ1.get "row" = some (.tup [.str (Kd.op o).nm, .int a, .int b, .int d]):=by rw [← hρ1]; exact g_th g2
  have q3:ρ1.get "name" = some (.str (Kd.op o).nm):=by rw [← hρ1]; exact g_th g3
  have q4:ρ1.get "number" = some (.int (S.of d).1):=by rw [← hρ1]; exact g_here
  obtain ⟨es, e, m⟩:=iv1.cs
  unfold VS.imm at hq
  dsimp only at hq
  refine s_if <| t_cmp <| x_var q4 <| x_at q1 iv1 ha1 (v:=.ref P1.cs) rfl <| nin_d e m (k:=(S.of d).1) rfl kI_tp ?_
  cases hx:(S.of d).2.consts (S.of d).1 with
  | none =>
   rw [hx] at hq
   exact ifT rfl <| s_ret <| x_var q2 <| hq P1 σ1 ha1 iv1 kp1
  | some x =>
   rw [hx] at hq
   dsimp only at hq
   refine ifF rfl <| s_assign <| x_call ha <| xs_cons <| x_sub <| x_at q1 iv1 ha1 (v:=.ref P1.cs) rfl <| x_var q4 <| get_dict e m (k:=(S.of d).1) rfl kI_tp hx <| xs_nil ⟨x, rfl, ?_⟩
   cases hi:asImm x with
   | none =>
    rw [hi] at hq
    exact s_if <| t_cmp <| x_var g_here <| x_lit <| c_is <| ifT rfl <| s_ret <| x_var (g_th q2) <| hq P1 σ1 ha1 iv1 kp1
   | some i =>
    rw [hi] at hq
    have q:=hq P1 σ1 ha1 iv1 kp1
    refine s_if <| t_cmp <| x_var g_here <| x_lit <| c_is <| ifF rfl <| s_ret <| x_tup <| xs_cons <| x_bin <| x_var (g_th q3) <| x_lit <| n_cat f4 <| xs_cons <| v1 (g_th q2) <| xs_cons <| v2 (g_th q2) <| xs_cons <| x_var g_here <| xs_nil ?_
    rw [show (Kd.op o).nm = o.nm from rfl, f3]; exact q
 ·rw [imm_same (fun o => hn o (f_all o))] at hq
  exact ifT (by rw [decide_eq_false (show ¬ k.nm = (Row.ins k a b d).base from n)]; rfl) <| ifT rfl <| s_ret <| x_var g2 <| hq P σ rfl (iv.up (Nat.le_succ B)) (KeepV.refl _ _)
end
end Mini
end
section
namespace Mini
open PySem PySem.W PyProof.Rows
noncomputable def orow:Option Row → V
 | some r => r.v | none => .none
noncomputable def VS.short (S:VS) (k:Kd) (a n:Int) (dead:Bool):Option Row :=
 if (dead || keepsM k.base || decide (k = .movh)) && !(decide (k = .mov) || decide (k = .movi)) then
  match (S.consts n).bind asImm with
  | some i => some (.ins .movi a 0 i)
  | none => if S.holder n a ≥ 0 then some (.ins .mov a 0 (S.holder n a)) else none
 else none
noncomputable def VS.better (S:VS) (k:Kd) (a b d n:Int) (dead:Bool):Option Row × VS :=
 if k.base = "MUL" ∨ k = .geth then (some (S.imm k a b d).1, (S.imm k a b d).2)
 else if dead = true ∧ (S.regs a).getD 0 = n then (none, S)
 else match S.short k a n dead with
  | some r => (some r, S)
  | none => (some (S.imm k a b d).1, (S.imm k a b d).2)
noncomputable def sp_better:Spec:=fun vs σ Q => ∃ P S B k a b d n dead, vs = [.ref P.a, Row.v (.ins k a b d), .int n, .bool dead] ∧ Runs P S B (B + 1) (S.better k a b d n dead).2 σ (Q (orow (S.better k a b d n dead).1))
section
variable {σ:Store} {P:VP} {S:VS} {B:Nat} {Γ:GE}
noncomputable def immTail:List Mini.S:=[.ret (.call "with_immediate" [(.var "values"), (.var "row")])]
theorem imm_tail (hw:Γ.fn "with_immediate" = some sp_imm) {ρ:Loc} {k:Kd} {a b d:Int} {K:Fl → Loc → Store → Prop} (g1:ρ.get "values" = some (.ref P.a)) (g2:ρ.get "row" = some (.tup [.str k.nm, .int a, .int b, .int d])) (h:Runs P S B (B + 1) (S.imm k a b d).2 σ (K (.ret (S.imm k a b d).1.v) ρ)) :
  wSs Γ immTail ρ σ K:=s_ret <| x_call hw <| xs_cons <| x_var g1 <| xs_cons <| x_var g2 <| xs_nil ⟨P, S, B, k, a, b, d, rfl, h⟩
noncomputable def shortBody:List Mini.S:=[.ite (.boolop false [(.cmp .In (.var "number") (.attr (.var "values") "consts")), (.cmp .IsNot (.call "as_immediate" [(.sub (.attr (.var "values") "consts") (.var "number"))]) (.lit .none))]) [.ret (.tup [(.lit (.str "MOVI")), (.sub (.var "row") (.lit (.int (1)))), (.lit (.int (0))), (.call "as_immediate" [(.sub (.attr (.var "values") "consts") (.var "number"))])])] [], .assign "holder" (.meth (.var "values") "holder" [(.var "number"), (.sub (.var "row") (.lit (.int (1))))]), .ite (.cmp .GtE (.var "holder") (.lit (.int (0)))) [.ret (.tup [(.lit (.str "MOV")), (.sub (.var "row") (.lit (.int (1)))), (.lit (.int (0))), (.var "holder")])] []]
noncomputable def VS.short0 (S:VS) (a n:Int):Option Row:=match (S.consts n).bind asImm with
 | some i => some (.ins .movi a 0 i)
 | none => if S.holder n a ≥ 0 then some (.ins .mov a 0 (S.holder n a)) else none
theorem short_run (hh:Γ.meth "holder" = some sp_holder) (hai:Γ.fn "as_immediate" = some sp_as_immediate) {ρ:Loc} {nm:Str} {a b d n:Int} {K:Fl → Loc → Store → Prop} (iv:IsV σ P S B) (g1:ρ.get "values" = some (.ref P.a)) (g2:ρ.get "row" = some (.tup [.str nm, .int a, .int b, .int d])) (g3:ρ.get "number" = some (.int n))
  (h1:∀ r ρ', S.short0 a n = some r → K (.ret r.v) ρ' σ) (h2:∀ v, S.short0 a n = none → K .next (ρ.set "holder" v) σ):wSs Γ shortBody ρ σ K:=by
 obtain ⟨es, e, m⟩:=iv.cs
 have rest:(S.consts n).bind asImm = none → wSs Γ [.assign "holder" (.meth (.var "values") "holder" [(.var "number"), (.sub (.var "row") (.lit (.int (1))))]), .ite (.cmp .GtE (.var "holder") (.lit (.int (0)))) [.ret (.tup [(.lit (.str "MOV")), (.sub (.var "row") (.lit (.int (1)))), (.lit (.int (0))), (.var "holder")])] []] ρ σ K:=by
  intro hn
  refine s_assign <| x_own g1 iv rfl hh rfl <| xs_cons <| x_var g3 <| xs_cons <| v1 g2 <| xs_nil ⟨P, S, B, n, a, rfl, iv, ?_⟩
  refine s_if <| t_cmp <| x_var g_here <| x_lit <| c_ge <| ifD (fun q => s_ret <| x_tup <| xs_cons <| x_lit <| xs_cons <| v1 (g_th g2) <| xs_cons <| x_lit <| xs_cons <| x_var g_here <| xs_nil <| h1 (.ins .mov a 0 (S.holder n a)) _ ?_) fun q => s_nil <| h2 _ ?_
  ·unfold VS.short0; rw [hn]; exact if_pos q
  ·unfold VS.short0; rw [hn]; exact if_neg q
 unfold shortBody
 refine s_if <| t_bool <| ts_cons <| t_cmp <| x_var g3 <| x_at g1 iv rfl (v:=.ref P.cs) rfl <| in_d e m (k:=n) rfl kI_tp ?_
 cases hx:S.consts n with
 | none => exact ifnF rfl <| ifF rfl <| rest (by rw [hx]; rfl)
 | some x =>
  refine ifnT rfl <| ts_cons <| t_cmp <| x_call hai <| xs_cons <| x_sub <| x_at g1 iv rfl (v:=.ref P.cs) rfl <| x_var g3 <| get_dict e m (k:=n) rfl kI_tp hx <| xs_nil ⟨x, rfl, x_lit <| c_isnot ?_⟩
  cases hi:asImm x with
  | none => exact ifnF rfl <| ifF rfl <| rest (by rw [hx]; exact hi)
  | some i =>
   refine ifnT rfl <| ts_nil <| ifT rfl <| s_ret <| x_tup <| xs_cons <| x_lit <| xs_cons <| v1 g2 <| xs_cons <| x_lit <| xs_cons <| x_call hai <| xs_cons <| x_sub <| x_at g1 iv rfl (v:=.ref P.cs) rfl <| x_var g3 <| get_dict e m (k:=n) rfl kI_tp hx <| xs_nil ⟨x, rfl, ?_⟩
   rw [hi]
   exact xs_nil <| h1 (.ins .movi a 0 i) _ (by unfold VS.short0; rw [hx]; show (match asImm x with | some i => _ | none => _) = _; rw [hi])
theorem kf1:∀ k ∈ allKd, (["MUL", "DIV"].map Str.ofString).contains k.base = decide (k.base = Str.ofString "MUL"):=by decide +kernel
theorem kf2 (k:Kd):decide (k.nm = Str.ofString "GETH") = decide (k = .geth):=(by decide +kernel:∀ k ∈ allKd, decide (k.nm = Str.ofString "GETH") = decide (k = .geth)) k (mem_allKd k)
theorem kf3 (k:Kd):decide (k.nm = Str.ofString "MOVH") = decide (k = .movh):=(by decide +kernel:∀ k ∈ allKd, decide (k.nm = Str.ofString "MOVH") = decide (k = .movh)) k (mem_allKd k)
theorem kf4:∀ k ∈ allKd, (["MOV", "MOVI"].map Str.ofString).contains k.nm = (decide (k = .mov) || decide (k = .movi)):=by decide +kernel
theorem short_eq {k:Kd} {a n:Int} {dead:Bool} (h:((dead || keepsM k.base || decide (k = .movh)) && !(decide (k = .mov) || decide (k = .movi))) = true):S.short k a n dead = S.short0 a n:=by unfold VS.short VS.short0; rw [if_pos h]
theorem short_no {k:Kd} {a n:Int} {dead:Bool} (h:((dead || keepsM k.base || decide (k = .movh)) && !(decide (k = .mov) || decide (k = .movi))) = false):S.short k a n dead = none:=by unfold VS.short; rw [if_neg (by rw [h]; decide)]
theorem x_reg {ρ:Loc} {x:X} {a:Int} {Q:V → Store → Prop} (iv:IsV σ P S B) (g1:ρ.get "values" = some (.ref P.a)) (hx:∀ {R:V → Store → Prop}, R (.int a) σ → wX Γ x ρ σ R) (h:Q (.int ((S.regs a).getD 0)) σ):wX Γ (.meth (.attr (.var "values") "regs") "get" [x, (.lit (.int (0)))]) ρ σ Q:=by
 obtain ⟨es, e, m⟩:=iv.rg
 exact x_meth <| x_at g1 iv rfl (v:=.ref P.rg) rfl <| dict_kind e <| xs_cons <| hx <| xs_cons <| x_lit <| xs_nil <| getd_dict e m (k:=a) (i:=0) rfl kI_tp h
theorem bt2 {ρ:Loc} {nm:Str} {a b d n:Int} {dead:Bool} {r:List Mini.S} {K:Fl → Loc → Store → Prop} (iv:IsV σ P S B) (g1:ρ.get "values" = some (.ref P.a)) (g2:ρ.get "row" = some (.tup [.str nm, .int a, .int b, .int d])) (g3:ρ.get "number" = some (.int n)) (g4:ρ.get "dead" = some (.bool dead))
  (h1:dead = true ∧ (S.regs a).getD 0 = n → K (.ret .none) ρ σ) (h2:¬ (dead = true ∧ (S.regs a).getD 0 = n) → wSs Γ r ρ σ K) :
  wSs Γ (.ite (.boolop false [(.var "dead"), (.cmp .Eq (.meth (.attr (.var "values") "regs") "get" [(.sub (.var "row") (.lit (.int (1)))), (.lit (.int (0)))]) (.var "number"))]) [.ret (.lit .none)] [] :: r) ρ σ K:=by
 refine s_if <| t_bool <| ts_cons <| t_var g4 <| ifnC (fun q => ifF rfl <| h2 fun z => ?_) fun q => ts_cons <| t_cmp <| x_reg iv g1 (fun q => v1 g2 q) <| x_var g3 <| c_eqi <| ifnD (fun n => ifF rfl <| h2 fun z => n z.2) fun e => ts_nil <| ifT rfl <| s_ret <| x_lit <| h1 ⟨q, e⟩
 rw [q] at z; cases z.1
theorem wSs_cons {s:Mini.S} {r:List Mini.S} {ρ:Loc} {K:Fl → Loc → Store → Prop} (h:wS Γ s ρ σ (fun f ρ₁ σ₁ => match f with | .next => wSs Γ r ρ₁ σ₁ K | f => K f ρ₁ σ₁)):wSs Γ (s :: r) ρ σ K:=h
theorem bt1 {ρ:Loc} {k:Kd} {a b d:Int} {r:List Mini.S} {K:Fl → Loc → Store → Prop} (g2:ρ.get "row" = some (.tup [.str k.nm, .int a, .int b, .int d])) (g5:ρ.get "operation" = some (.str k.base))
  (h1:(k.base = "MUL" ∨ k = .geth) → wSs Γ immTail ρ σ (seqK Γ r K)) (h2:¬ (k.base = "MUL" ∨ k = .geth) → wSs Γ r ρ σ K) :
  wSs Γ (.ite (.boolop true [(.cmp .In (.var "operation") (.tup [(.lit (.str "MUL")), (.lit (.str "DIV"))])), (.cmp .Eq (.sub (.var "row") (.lit (.int (0)))) (.lit (.str "GETH")))]) immTail [] :: r) ρ σ K:=by
 refine s_if <| t_bool <| ts_cons <| t_cmp <| x_var g5 <| x_strs (ss:=["MUL", "DIV"]) <| c_in <| in_tup ?_
 rw [kf1 k (mem_allKd k)]
 refine ifD (fun q => ifT rfl <| h1 (.inl q)) fun q1 => ts_cons <| t_cmp <| v0 g2 <| x_lit <| c_eqs ?_
 rw [kf2]
 exact ifD (fun q => ifT rfl <| h1 (.inr q)) fun q2 => ts_nil <| ifF rfl <| h2 fun z => z.elim q1 q2
theorem bt3 (hk:Γ.fn "keeps_move_flags" = some (sp_str (fun s => .bool (keepsM s)))) {ρ:Loc} {k:Kd} {a b d:Int} {dead:Bool} {r:List Mini.S} {K:Fl → Loc → Store → Prop} (g2:ρ.get "row" = some (.tup [.str k.nm, .int a, .int b, .int d])) (g4:ρ.get "dead" = some (.bool dead)) (g5:ρ.get "operation" = some (.str k.base))
  (h:wSs Γ r (ρ.set "free" (.bool (dead || keepsM k.base || decide (k = .movh)))) σ K) :
  wSs Γ (.assign "free" (.boolop true [(.var "dead"), (.call "keeps_move_flags" [(.var "operation")]), (.cmp .Eq (.sub (.var "row") (.lit (.int (0)))) (.lit (.str "MOVH")))]) :: r) ρ σ K:=by
 refine s_assign <| x_bool ⟨_, g4, ?_⟩
 show truthW _ _
 refine truth <| ifC (fun q => ?_) fun q => ?_
 ·rw [q, Bool.true_or, Bool.true_or] at h; rw [q]; exact h
 ·rw [q, Bool.false_or] at h
  refine bo2 <| x_call hk <| xs_cons <| x_var g5 <| xs_nil ⟨k.base, rfl, truth <| ifC (fun q => ?_) fun q => x_cmp <| v0 g2 <| x_lit <| c_eqs ?_⟩
  ·rw [q, Bool.true_or] at h
   show wSs Γ r (ρ.set "free" (.bool (keepsM k.base))) σ K
   rw [q]; exact h
  ·rw [q, Bool.false_or] at h
   rw [kf3]; exact h
theorem bt4 {ρ:Loc} {k:Kd} {a b d:Int} {fr:Bool} {r:List Mini.S} {K:Fl → Loc → Store → Prop} (g2:ρ.get "row" = some (.tup [.str k.nm, .int a, .int b, .int d])) (g6:ρ.get "free" = some (.bool fr))
  (h1:(fr && !(decide (k = .mov) || decide (k = .movi))) = true → wSs Γ shortBody ρ σ (seqK Γ r K)) (h2:(fr && !(decide (k = .mov) || decide (k = .movi))) = false → wSs Γ r ρ σ K) :
  wSs Γ (.ite (.boolop false [(.var "free"), (.cmp .NotIn (.sub (.var "row") (.lit (.int (0)))) (.tup [(.lit (.str "MOV")), (.lit (.str "MOVI"))]))]) shortBody [] :: r) ρ σ K:=by
 refine s_if <| t_bool <| ts_cons <| t_var g6 <| ifnC (fun q => ifF rfl <| h2 (by rw [q]; rfl)) fun q => ts_cons <| t_cmp <| v0 g2 <| x_strs (ss:=["MOV", "MOVI"]) <| c_notin <| in_tup ?_
 rw [kf4 k (mem_allKd k)]
 exact ifnC (fun q2 => ifF rfl <| h2 (by rw [q, q2]; rfl)) fun q2 => ts_nil <| ifT rfl <| h1 (by rw [q, q2]; rfl)
theorem ok_better (hw:Γ.fn "with_immediate" = some sp_imm) (hh:Γ.meth "holder" = some sp_holder) (hai:Γ.fn "as_immediate" = some sp_as_immediate) (hb:Γ.fn "base_name" = some (sp_row fun r => .str r.base)) (hk:Γ.fn "keeps_move_flags" = some (sp_str (fun s => .bool (keepsM s))))
  {vs:List V} {σ:Store} {Q:V → Store → Prop} (h:sp_better vs σ Q):wBody Γ ["values", "row", "number", "dead"] b_better_row vs σ Q:=by
 obtain ⟨P, S, B, k, a, b, d, n, dead, rfl, hR⟩:=h
 obtain ⟨iv, hB, hq⟩:=id hR
 refine body_intro rfl ?_
 show wSs Γ (.assign "operation" (.call "base_name" [(.var "row")]) :: .ite (.boolop true [(.cmp .In (.var "operation") (.tup [(.lit (.str "MUL")), (.lit (.str "DIV"))])), (.cmp .Eq (.sub (.var "row") (.lit (.int (0)))) (.lit (.str "GETH")))]) immTail [] ::
  .ite (.boolop false [(.var "dead"), (.cmp .Eq (.meth (.attr (.var "values") "regs") "get" [(.sub (.var "row") (.lit (.int (1)))), (.lit (.int (0)))]) (.var "number"))]) [.ret (.lit .none)] [] ::
  .assign "free" (.boolop true [(.var "dead"), (.call "keeps_move_flags" [(.var "operation")]), (.cmp .Eq (.sub (.var "row") (.lit (.int (0)))) (.lit (.str "MOVH")))]) ::
  .ite (.boolop false [(.var "free"), (.cmp .NotIn (.sub (.var "row") (.lit (.int (0)))) (.tup [(.lit (.str "MOV")), (.lit (.str "MOVI"))]))]) shortBody [] :: immTail) _ σ _
 generalize hρ:((((Loc.set [] "values" (V.ref P.a)).set "row" (Row.v (.ins k a b d))).set "number" (.int n)).set "dead" (.bool dead)) = ρ
 have g1:ρ.get "values" = some (.ref P.a):=hρ ▸ g_th (g_th (g_th g_here))
 have g2:ρ.get "row" = some (.tup [.str k.nm, .int a, .int b, .int d]):=hρ ▸ g_th (g_th g_here)
 have g3:ρ.get "number" = some (.int n):=hρ ▸ g_th g_here
 have g4:ρ.get "dead" = some (.bool dead):=hρ ▸ g_here
 have ne:∀ {x y:String} {ρ:Loc} {v:V}, x ≠ y → (ρ.set (Str.ofString y) v).get (Str.ofString x) = ρ.get (Str.ofString x):=fun {x y ρ v} hy => by rw [Loc.get_set, if_neg (by rw [ofString_inj]; exact hy)]
 refine wSs_cons ?_
 refine x_call hb <| xs_cons <| x_var g2 <| xs_nil ⟨.ins k a b d, rfl, ?_⟩
 show wSs Γ _ (ρ.set "operation" (.str (Row.base (.ins k a b d)))) σ _
 generalize hρ1:ρ.set "operation" (.str (Row.base (.ins k a b d))) = ρ1
 have k1:ρ1.get "values" = some (.ref P.a):=hρ1 ▸ g_th g1
 have k2:ρ1.get "row" = some (.tup [.str k.nm, .int a, .int b, .int d]):=hρ1 ▸ g_th g2
 have k3:ρ1.get "number" = some (.int n):=hρ1 ▸ g_th g3
 have k4:ρ1.get "dead" = some (.bool dead):=hρ1 ▸ g_th g4
 have k5:ρ1.get "operation" = some (.str k.base):=by rw [← hρ1, Loc.get_set, if_pos rfl]; rfl
 refine bt1 k2 k5 (fun z => ?_) fun z1 => ?_
 ·have e:S.better k a b d n dead = (some (S.imm k a b d).1, (S.imm k a b d).2):=by unfold VS.better; rw [if_pos z]
  rw [e] at hR
  exact imm_tail hw k1 k2 hR
 refine bt2 iv k1 k2 k3 k4 (fun z => ?_) fun z2 => ?_
 ·have e:S.better k a b d n dead = (none, S):=by unfold VS.better; rw [if_neg z1, if_pos z]
  rw [e] at hq
  exact hq P σ rfl (iv.up (Nat.le_succ B)) (KeepV.refl _ _)
 refine bt3 hk k2 k4 k5 ?_
 generalize hρ2:ρ1.set "free" (.bool (dead || keepsM k.base || decide (k = .movh))) = ρ2
 have l1:ρ2.get "values" = some (.ref P.a):=hρ2 ▸ g_th k1
 have l2:ρ2.get "row" = some (.tup [.str k.nm, .int a, .int b, .int d]):=hρ2 ▸ g_th k2
 have l3:ρ2.get "number" = some (.int n):=hρ2 ▸ g_th k3
 have l6:ρ2.get "free" = some (.bool (dead || keepsM k.base || decide (k = .movh))):=by rw [← hρ2, Loc.get_set, if_pos rfl]
 have slow:S.short k a n dead = none → Runs P S B (B + 1) (S.imm k a b d).2 σ (Q (S.imm k a b d).1.v):=fun z => by
  have e:S.better k a b d n dead = (some (S.imm k a b d).1, (S.imm k a b d).2):=by unfold VS.better; rw [if_neg z1, if_neg z2, z]
  rw [e] at hR; exact hR
 refine bt4 l2 l6 (fun q => ?_) fun q => ?_
 ·refine short_run hh hai iv l1 l2 l3 (fun r ρ' hr => ?_) fun v hr => ?_
  ·have e:S.better k a b d n dead = (some r, S):=by unfold VS.better; rw [if_neg z1, if_neg z2, short_eq q, hr]
   rw [e] at hq
   exact hq P σ rfl (iv.up (Nat.le_succ B)) (KeepV.refl _ _)
  ·exact imm_tail hw (by rw [ne (by decide)]; exact l1) (by rw [ne (by decide)]; exact l2) (slow (by rw [short_eq q]; exact hr))
 ·exact imm_tail hw l1 l2 (slow (short_no q))
end
end Mini
end
section
namespace Mini
open PySem PySem.W PyProof.Rows
noncomputable def VS.loadNew (S:VS) (k:Kd) (a p c:Int):VS :=
 { S.fresh with regs:=upd S.regs a (S.count + 1), words:=if k = .ldr then upd S.words (p, c) (S.count + 1) else S.words }
noncomputable def VS.load (S:VS) (k:Kd) (a b c:Int) (dead:Bool):Option Row × VS :=
 let p:=(S.of b).1
 let S1:=(S.of b).2
 match (if k = .ldb then none else S1.words (p, c)) with
 | none => (some (.ins k a b c), S1.loadNew k a p c)
 | some n => (if (S1.regs a).getD 0 = n then none else if dead = true ∧ S1.holder n a ≥ 0 then some (.ins .mov a 0 (S1.holder n a)) else some (.ins k a b c), { S1 with regs:=upd S1.regs a n })
noncomputable def sp_load:Spec:=fun vs σ Q => ∃ P S B k a b c dead, vs = [.ref P.a, Row.v (.ins k a b c), .bool dead] ∧ (k = .ldr ∨ k = .ldb) ∧ Runs P S B (B + 2) (S.load k a b c dead).2 σ (Q (orow (S.load k a b c dead).1))
end Mini
end
section
namespace Mini
open PySem PySem.W PyProof.Rows
noncomputable def VS.forget (S:VS) (base:Int) (k:Kd) (c:Int):VS:={ S with words:=fun x => if x.1 = base ∧ apartB x.2 4 c k.bytes = true then S.words x else none }
noncomputable def sp_forget:Spec:=fun vs σ Q => ∃ P S B base k a b c, vs = [.ref P.a, .int base, Row.v (.ins k a b c)] ∧ Runs P S B B (S.forget base k c) σ (Q .none)
theorem MapK.congr {α:Type} {enc:α → Key} {f g:α → Option Int} {B:Nat} {es:List (Key × V)} (m:MapK enc f B es) (h:∀ x, f x = g x):MapK enc g B es:=⟨m.len, m.shape, fun x => by rw [m.at_ x, h x]⟩
section
variable {σ:Store} {P:VP} {S:VS} {B:Nat} {Γ:GE}
noncomputable def forgetBody:List Mini.S:=[.assign "other" (.tup [(.lit (.str "LDR")), (.lit (.int (0))), (.lit (.int (0))), (.sub (.var "place") (.lit (.int (1))))]), .ite (.boolop false [(.cmp .Eq (.sub (.var "place") (.lit (.int (0)))) (.var "base")), (.call "apart" [(.var "other"), (.var "row")])]) [.setSub (.var "kept") (.var "place") (.sub (.attr (.var "self") "words") (.var "place"))] []]
noncomputable def keptF (S:VS) (base:Int) (k:Kd) (c:Int) (pre:List (Key × V)):Int × Int → Option Int:=fun x => if pre.any (fun e => decide (e.1 = kW x)) = true ∧ x.1 = base ∧ apartB x.2 4 c k.bytes = true then S.words x else none
theorem fd_get {α:Type} {enc:α → Key} {f:α → Option Int} {d:Addr} {es:List (Key × V)} {x:V} {k:α} {i:Int} {Q:V → Store → Prop} (e:σ d = some (.fdict es)) (m:MapK enc f B es) (hk:x.key? = some (enc k)) (tp:∀ x y, (enc x).isTp = (enc y).isTp) (hf:f k = some i) (q:Q (.int i) σ):getItemW (.ref d) x σ Q:=by
 unfold getItemW
 dsimp only
 rw [e]
 exact ⟨enc k, .int i, hk, fun en he => by obtain ⟨y, v, e1, _⟩:=m.shape en he; rw [e1]; exact tp _ _, by rw [m.at_ k, hf]; rfl, q⟩
theorem MapK.has {α:Type} {enc:α → Key} {f:α → Option Int} {es:List (Key × V)} (m:MapK enc f B es) {e:Key × V} (he:e ∈ es):∃ x v, e.1 = enc x ∧ f x = some v:=by
 obtain ⟨x, v, h1, _⟩:=m.shape e he
 have:(aget es (enc x)).isSome = true:=by
  rw [← any_aget]; exact List.any_eq_true.mpr ⟨e, he, decide_eq_true h1⟩
 rw [m.at_ x, Option.isSome_map] at this
 obtain ⟨i, hi⟩:=Option.isSome_iff_exists.mp this
 exact ⟨x, i, h1, hi⟩
theorem forget_turn (hap:Γ.fn "apart" = some sp_apart) {τ:Store} {a dx wd kb:Addr} {n:Int} {es ks pre:List (Key × V)} {base:Int} {k:Kd} {ra rb c:Int} {ρ:Loc} {x:Int × Int} {v:Int} {K:Fl → Loc → Store → Prop}
  (t1:τ a = some (.inst dx)) (t2:τ dx = some (.attrs (VP.attrs P n))) (t3:τ P.wd = some (.fdict es)) (n1:a ≠ kb) (n2:dx ≠ kb) (n3:P.wd ≠ kb)
  (hm:MapK kW S.words B es) (hx:S.words x = some v) (hB:B ≤ 50000) (mk:MapK kW (keptF S base k c pre) pre.length ks) (hp:pre.length ≤ 100000)
  (g1:ρ.get "self" = some (.ref a)) (g2:ρ.get "base" = some (.int base)) (g3:ρ.get "row" = some (Row.v (.ins k ra rb c))) (g4:ρ.get "kept" = some (.ref kb)) (g5:ρ.get "place" = some (kW x).v)
  (h:∀ ks' u e, e.1 = kW x → MapK kW (keptF S base k c (pre ++ [e])) (pre.length + 1) ks' → K .next (ρ.set "other" u) (τ.set kb (.dict ks'))):wSs Γ forgetBody ρ (τ.set kb (.dict ks)) K:=by
 have g5:ρ.get "place" = some (.tup [.int x.1, .int x.2]):=g5
 have g3:ρ.get "row" = some (.tup [.str k.nm, .int ra, .int rb, .int c]):=g3
 have oth:∀ {y:Int × Int} {w:V}, x ≠ y → (pre ++ [(kW x, w)]).any (fun e => decide (e.1 = kW y)) = pre.any (fun e => decide (e.1 = kW y)):=fun {y w} hy => by
  rw [List.any_append, List.any_cons, List.any_nil, Bool.or_false, decide_eq_false fun z => hy (kW_inj _ _ z), Bool.or_false]
 have kk:(¬ (x.1 = base ∧ apartB x.2 4 c k.bytes = true)) → MapK kW (keptF S base k c (pre ++ [(kW x, .none)])) (pre.length + 1) ks:=by
  intro hn
  refine (mk.up (Nat.le_succ _)).congr fun y => ?_
  unfold keptF
  by_cases hy:x = y
  ·subst hy; rw [if_neg (fun z => hn z.2), if_neg (fun z => hn z.2)]
  ·rw [oth hy]
 refine s_assign <| x_tup <| xs_cons <| x_lit <| xs_cons <| x_lit <| xs_cons <| x_lit <| xs_cons <| w1' g5 <| xs_nil <| s_if <| t_bool <| ts_cons <| t_cmp <| w0 (g_th g5) <| x_var (g_th g2) <| c_eqi <| ifnD (fun hb => ifF rfl <| s_nil <| h ks _ (kW x, .none) rfl (kk fun z => hb z.1)) fun hb => ts_cons <| t_call hap <| xs_cons <| x_var g_here <| xs_cons <| x_var (g_th g3) <| xs_nil ⟨.ldr, 0, 0, x.2, k, ra, rb, c, rfl, truth ?_⟩
 show if apartB x.2 4 c k.bytes = false then _ else _
 refine ifnC (fun ha => ifF rfl <| s_nil <| h ks _ (kW x, .none) rfl (kk fun z => Bool.false_ne_true (ha.symm.trans z.2))) fun ha => ts_nil <| ifT rfl ?_
 have e3:(τ.set kb (.dict ks)) P.wd = some (.fdict es):=(set_ne n3).trans t3
 refine s_sub <| x_sub <| x_attr <| x_var (g_th g1) ⟨dx, _, .ref P.wd, (set_ne n1).trans t1, (set_ne n2).trans t2, rfl, x_var (g_th g5) <| fd_get e3 hm rfl kW_tp hx <| x_var (g_th g4) <| x_var (g_th g5) <| set_dict (enc:=kW) (k:=x) set_eq mk hp rfl kW_tp ?_⟩
 rw [set_set]
 refine s_nil <| h _ _ (kW x, .none) rfl ((mk.set kW_inj x v).congr fun y => ?_)
 unfold keptF upd
 by_cases hy:x = y
 ·subst hy
  have self:(pre ++ [(kW x, V.none)]).any (fun e => decide (e.1 = kW x)) = true:=by rw [List.any_append, List.any_cons, decide_eq_true rfl, Bool.true_or, Bool.or_true]
  rw [if_pos rfl, if_pos ⟨self, hb, ha⟩, hx]
 ·rw [oth hy, if_neg hy]
theorem keptF_eq {S:VS} {base:Int} {k:Kd} {c:Int} {p q:List (Key × V)} (h:p.map (·.1) = q.map (·.1)):keptF S base k c p = keptF S base k c q:=by
 have:∀ x:Int × Int, p.any (fun e => decide (e.1 = kW x)) = q.any (fun e => decide (e.1 = kW x)):=fun x => by
  have e:∀ l:List (Key × V), l.any (fun e => decide (e.1 = kW x)) = (l.map (·.1)).any (fun y => decide (y = kW x)):=fun l => by rw [List.any_map]; rfl
  rw [e, e, h]
 funext x; unfold keptF; rw [this]
theorem forget_loop (hap:Γ.fn "apart" = some sp_apart) {τ:Store} {a dx kb:Addr} {n:Int} {es:List (Key × V)} {base:Int} {k:Kd} {ra rb c:Int} {K:Fl → Loc → Store → Prop}
  (t1:τ a = some (.inst dx)) (t2:τ dx = some (.attrs (VP.attrs P n))) (t3:τ P.wd = some (.fdict es)) (n1:a ≠ kb) (n2:dx ≠ kb) (n3:P.wd ≠ kb)
  (hm:MapK kW S.words B es) (hB:B ≤ 50000):∀ (post pre ks:List (Key × V)) (ρ:Loc), es = pre ++ post → MapK kW (keptF S base k c pre) pre.length ks →
  ρ.get "self" = some (.ref a) → ρ.get "base" = some (.int base) → ρ.get "row" = some (Row.v (.ins k ra rb c)) → ρ.get "kept" = some (.ref kb) →
  (∀ ρ' ks', ρ'.get "self" = some (.ref a) → ρ'.get "kept" = some (.ref kb) → MapK kW (keptF S base k c es) es.length ks' → K .next ρ' (τ.set kb (.dict ks'))) →
  forLoop (fun σ' => σ' P.wd = some (.fdict es)) (fun ρ' σ' Q' => wSs Γ forgetBody ρ' σ' Q') "place" (post.map fun e => e.1.v) ρ (τ.set kb (.dict ks)) K:=by
 intro post
 have gd:∀ {o:MObj}, (τ.set kb o) P.wd = some (.fdict es):=(set_ne n3).trans t3
 induction post with
 | nil =>
  intro pre ks ρ he mk g1 g2 g3 g4 h
  rw [List.append_nil] at he; subst he
  exact fl_nil gd (h ρ ks g1 g4 mk)
 | cons e post ih =>
  intro pre ks ρ he mk g1 g2 g3 g4 h
  obtain ⟨x, v', h1, hv⟩:=hm.has (show e ∈ es by rw [he]; exact List.mem_append_right _ (.head _))
  have hl:pre.length ≤ 100000:=Nat.le_trans (Nat.le_add_right _ _) (Nat.le_trans (Nat.le_of_eq (List.length_append.symm.trans (congrArg List.length he).symm)) (Nat.le_trans hm.len (Nat.le_trans hB (by decide))))
  rw [List.map_cons, h1]
  refine fl_cons gd (forget_turn hap (wd:=P.wd) t1 t2 t3 n1 n2 n3 hm hv hB mk hl (g_th g1) (g_th g2) (g_th g3) (g_th g4) g_here fun ks' u e' he' mk' => ?_)
  have ee:keptF S base k c (pre ++ [e']) = keptF S base k c (pre ++ [e]):=keptF_eq (by rw [List.map_append, List.map_append, List.map_cons, List.map_cons, h1, he'])
  rw [ee] at mk'
  have mk2:MapK kW (keptF S base k c (pre ++ [e])) (pre ++ [e]).length ks':=by rw [List.length_append]; exact mk'
  exact ih (pre ++ [e]) ks' _ (by rw [he, List.append_assoc]; rfl) mk2 (g_th (g_th g1)) (g_th (g_th g2)) (g_th (g_th g3)) (g_th (g_th g4)) h
theorem ok_forget (hap:Γ.fn "apart" = some sp_apart) {vs:List V} {σ:Store} {Q:V → Store → Prop} (h:sp_forget vs σ Q):wBody Γ ["self", "base", "row"] b_V_forget_words vs σ Q:=by
 obtain ⟨P, S, B, base, k, ra, rb, c, rfl, iv, hB, hq⟩:=h
 refine body_intro rfl ?_
 show wSs Γ (.assign "kept" (.dict [] []) :: .for_ "place" (.attr (.var "self") "words") forgetBody :: [.setAttr (.var "self") "words" (.var "kept")]) _ σ _
 obtain ⟨es, e, m⟩:=iv.wd
 refine s_assign <| x_empty fun kb hkb => ?_
 have nx:kb ∉ P.all:=fun z => by have:=iv.there kb z; rw [hkb] at this; exact nomatch this
 have nn:∀ y ∈ P.all, y ≠ kb:=fun y hy z => nx (z ▸ hy)
 have iv1:IsV (σ.set kb (.dict [])) P S B:=iv.frame fun y hy => set_ne (nn y hy)
 have nw:=nn P.wd (ft_all wd_ft)
 have e':(σ.set kb (.dict [])) P.wd = some (.dict es):=(set_ne nw).trans e
 have a6:P.a ≠ P.wd:=VP.ft iv.apart wd_ft
 have b5:P.dx ≠ P.wd:=n_dx iv.apart (.tail _ (.tail _ (.tail _ (.tail _ (.head _)))))
 refine s_for ⟨_, g_th (g_th (g_th g_here)), iv1.getA rfl (v:=.ref P.wd) rfl <| it_dict e' (Nat.le_trans m.len (Nat.le_trans hB (by decide))) (.inr fun en he => by obtain ⟨y, v, e1, _⟩:=m.shape en he; rw [e1]; rfl) ?_⟩
 rw [set_comm nw.symm]
 refine forget_loop hap (τ:=σ.set P.wd (.fdict es)) (a:=P.a) (dx:=P.dx) (n:=S.count) (base:=base) (k:=k) (ra:=ra) (rb:=rb) (c:=c) ((set_ne a6).trans iv.inst) ((set_ne b5).trans iv.dict) set_eq (nn P.a (.head _)) (nn P.dx (ft_all dx_ft)) nw m hB es [] [] _ rfl ⟨Nat.le_refl _, (fun e he => nomatch he), fun x => by unfold keptF; rw [if_neg fun z => Bool.false_ne_true z.1]; rfl⟩ (g_th (g_th (g_th g_here))) (g_th (g_th g_here)) (g_th g_here) g_here fun ρ' ks g1 g4 mk => ?_
 ·show wSs Γ [.setAttr (.var "self") "words" (.var "kept")] ρ' (((σ.set P.wd (.fdict es)).set kb (.dict ks)).set P.wd (.dict es)) _
  refine s_attr <| x_var g4 <| x_var g1 ?_
  have iv2:IsV (((σ.set P.wd (.fdict es)).set kb (.dict ks)).set P.wd (.dict es)) P S B:=iv.frame fun y hy => by
   by_cases yw:y = P.wd
   ·subst yw; rw [set_eq, e]
   ·rw [set_ne yw, set_ne (nn y hy), set_ne yw]
  have mk':MapK kW (fun x:Int × Int => if x.1 = base ∧ apartB x.2 4 c k.bytes = true then S.words x else none) B ks:=by
   refine (mk.up m.len).congr fun x => ?_
   unfold keptF
   have q:=m.at_ x
   rw [any_aget, q, Option.isSome_map]
   cases hw:S.words x with
   | none => rw [if_neg fun z => Bool.false_ne_true z.1, ite_self]
   | some v =>
    by_cases z:x.1 = base ∧ apartB x.2 4 c k.bytes = true
    ·rw [if_pos z, if_pos ⟨rfl, z⟩]
    ·rw [if_neg z, if_neg fun y => z y.2]
  have iv3:=iv2.newWords (b:=kb) nx ((set_ne nw.symm).trans set_eq) mk'
  refine iv2.setA rfl <| s_nil <| hq { P with wd:=kb } _ rfl iv3 ?_
  have kp:=keep_words (P:=P) (o:=.dict ks) (o':=.attrs (aput (P.attrs S.count) "words" (.ref kb))) hkb
  refine ⟨fun y o hy hn => ?_, kp.foot⟩
  have y2:y ≠ P.wd:=fun z => hn (z ▸ wd_ft)
  have q:=kp.keep y o hy hn
  have y1:y ≠ P.dx:=fun z => hn (z ▸ dx_ft)
  rw [set_ne y1] at q ⊢
  rw [set_ne y2, set_ne (ne_new hy hkb), set_ne y2]; exact hy
end
end Mini
end
section
namespace Mini
open PySem PySem.W PyProof.Rows
section
variable {σ:Store} {P:VP} {S:VS} {B:Nat} {Γ:GE}
noncomputable def newBody:List Mini.S:=[.setSub (.attr (.var "values") "regs") (.sub (.var "row") (.lit (.int (1)))) (.meth (.var "values") "fresh" []), .ite (.cmp .Eq (.sub (.var "row") (.lit (.int (0)))) (.lit (.str "LDR"))) [.setSub (.attr (.var "values") "words") (.var "place") (.sub (.attr (.var "values") "regs") (.sub (.var "row") (.lit (.int (1)))))] [], .ret (.var "row")]
theorem newload_run (hfr:Γ.meth "fresh" = some sp_fresh) {ρ:Loc} {k:Kd} {a b c p:Int} {K:Fl → Loc → Store → Prop} (hk:k = .ldr ∨ k = .ldb) (g1:ρ.get "values" = some (.ref P.a)) (g2:ρ.get "row" = some (.tup [.str k.nm, .int a, .int b, .int c])) (g3:ρ.get "place" = some (.tup [.int p, .int c]))
  (h:Runs P S B (B + 1) (S.loadNew k a p c) σ (K (.ret (.tup [.str k.nm, .int a, .int b, .int c])) ρ)):wSs Γ newBody ρ σ K:=by
 obtain ⟨iv, hB, hq⟩:=h
 refine s_sub <| x_own g1 iv rfl hfr rfl <| xs_nil ⟨P, S, B, rfl, iv, Nat.le_of_succ_le hB, fun P1 σ1 ha iv1 kp1 => ?_⟩
 obtain ⟨es1, x1, m1⟩:=iv1.rg
 have iv2:=(iv1.up (Nat.le_succ B)).set_rg (m1.set kI_inj a (S.count + 1))
 have kp2:=kp1.trans (KeepV.set (P:=P1) (o:=.dict (aset es1 (kI a) (.int (S.count + 1)))) (b:=P1.rg) rg_ft)
 refine x_at g1 iv1 ha (v:=.ref P1.rg) rfl <| v1 g2 <| set_dict x1 m1 (le_dict hB) (k:=a) rfl kI_tp <| s_if <| t_cmp <| v0 g2 <| x_lit <| c_eqs ?_
 rcases hk with rfl | rfl
 ·obtain ⟨es2, x2, m2⟩:=iv2.rg
  obtain ⟨es3, x3, m3⟩:=iv1.wd
  have x3':((σ1.set P1.rg (.dict (aset es1 (kI a) (.int (S.count + 1)))))) P1.wd = some (.dict es3):=by
   obtain ⟨_, _, _, _, _, _, _, _, _, _, _, _, _, _, c4, _⟩:=VP.ne iv1.apart
   rw [set_ne c4.symm]; exact x3
  exact ifT (decide_eq_true rfl) <| s_sub <| x_sub <| x_at g1 iv2 ha (v:=.ref P1.rg) rfl <| v1 g2 <| get_dict x2 m2 (k:=a) rfl kI_tp (i:=S.count + 1) (if_pos rfl) <| x_at g1 iv2 ha (v:=.ref P1.wd) rfl <| x_var g3 <| set_dict x3' m3 (le_dict hB) (k:=(p, c)) rfl kW_tp <| s_nil <| s_ret <| x_var g2 <| hq P1 _ ha (iv2.set_wd (m3.set kW_inj (p, c) (S.count + 1))) (kp2.trans (KeepV.set wd_ft))
 ·exact ifF (decide_eq_false (ofs_ne (a:="LDB") (b:="LDR"))) <| s_ret <| x_var g2 <| hq P1 _ ha iv2 kp2
noncomputable def VS.loadOld (S:VS) (k:Kd) (a b c n:Int) (dead:Bool):Option Row:=if (S.regs a).getD 0 = n then none else if dead = true ∧ S.holder n a ≥ 0 then some (.ins .mov a 0 (S.holder n a)) else some (.ins k a b c)
noncomputable def oldIf:Mini.S:=.ite (.cmp .Eq (.meth (.attr (.var "values") "regs") "get" [(.sub (.var "row") (.lit (.int (1)))), (.lit (.int (0)))]) (.var "number")) [.assign "result" (.lit .none)] [.ite (.boolop false [(.var "dead"), (.cmp .GtE (.meth (.var "values") "holder" [(.var "number"), (.sub (.var "row") (.lit (.int (1))))]) (.lit (.int (0))))]) [.assign "result" (.tup [(.lit (.str "MOV")), (.sub (.var "row") (.lit (.int (1)))), (.lit (.int (0))), (.meth (.var "values") "holder" [(.var "number"), (.sub (.var "row") (.lit (.int (1))))])])] []]
theorem old_test (hh:Γ.meth "holder" = some sp_holder) {ρ:Loc} {k:Kd} {a b c n:Int} {dead:Bool} {r:List Mini.S} {K:Fl → Loc → Store → Prop} (iv:IsV σ P S B) (g1:ρ.get "values" = some (.ref P.a)) (g2:ρ.get "row" = some (.tup [.str k.nm, .int a, .int b, .int c])) (g3:ρ.get "number" = some (.int n)) (g4:ρ.get "dead" = some (.bool dead)) (g5:ρ.get "result" = some (.tup [.str k.nm, .int a, .int b, .int c]))
  (h:∀ ρ', (∀ x:String, x ≠ "result" → ρ'.get (Str.ofString x) = ρ.get (Str.ofString x)) → ρ'.get "result" = some (orow (S.loadOld k a b c n dead)) → wSs Γ r ρ' σ K):wSs Γ (oldIf :: r) ρ σ K:=by
 have gn:∀ {v}, ∀ x:String, x ≠ "result" → (ρ.set "result" v).get (Str.ofString x) = ρ.get (Str.ofString x):=fun x hx => lget_ne hx
 have there:∀ {o}, S.loadOld k a b c n dead = o → ∀ {v}, orow o = v → wSs Γ r (ρ.set "result" v) σ K:=fun e _ e2 => h _ gn (by rw [e, ← e2]; exact g_here)
 refine s_ite <| t_cmp <| x_reg iv g1 (fun q => v1 g2 q) <| x_var g3 <| c_eqi <| ifD (fun hn => s_assign <| x_lit <| s_nil <| there (if_pos hn) rfl) fun hn => ?_
 have stay:¬ (dead = true ∧ S.holder n a ≥ 0) → wSs Γ r ρ σ K:=fun z => h ρ (fun _ _ => rfl) (by rw [g5]; unfold VS.loadOld; rw [if_neg hn, if_neg z]; rfl)
 refine s_if <| t_bool <| ts_cons <| t_var g4 <| ifnC (fun hd => ifF rfl <| s_nil <| stay fun z => Bool.false_ne_true (hd.symm.trans z.1)) fun hd => ts_cons <| t_cmp <| x_own g1 iv rfl hh rfl <| xs_cons <| x_var g3 <| xs_cons <| v1 g2 <| xs_nil ⟨P, S, B, n, a, rfl, iv, x_lit <| c_ge <| ifnD (fun hz => ifF rfl <| s_nil <| stay fun z => hz z.2) fun hz => ts_nil <| ifT rfl ?_⟩
 exact s_assign <| x_tup <| xs_cons <| x_lit <| xs_cons <| v1 g2 <| xs_cons <| x_lit <| xs_cons <| x_own g1 iv rfl hh rfl <| xs_cons <| x_var g3 <| xs_cons <| v1 g2 <| xs_nil ⟨P, S, B, n, a, rfl, iv, xs_nil <| s_nil <| there ((if_neg hn).trans (if_pos ⟨hd, hz⟩)) rfl⟩
theorem ok_load (hof:Γ.meth "of" = some sp_of) (hfr:Γ.meth "fresh" = some sp_fresh) (hh:Γ.meth "holder" = some sp_holder) {vs:List V} {σ:Store} {Q:V → Store → Prop} (h:sp_load vs σ Q):wBody Γ ["values", "row", "dead"] b_load_row vs σ Q:=by
 obtain ⟨P, S, B, k, a, b, c, dead, rfl, hk, hR⟩:=h
 obtain ⟨iv, hB, hq⟩:=id hR
 refine body_intro rfl ?_
 show wSs Γ (.assign "place" (.tup [(.meth (.var "values") "of" [(.sub (.var "row") (.lit (.int (2))))]), (.sub (.var "row") (.lit (.int (3))))]) ::
  .ite (.boolop true [(.cmp .Eq (.sub (.var "row") (.lit (.int (0)))) (.lit (.str "LDB"))), (.cmp .NotIn (.var "place") (.attr (.var "values") "words"))]) newBody [] ::
  .assign "number" (.sub (.attr (.var "values") "words") (.var "place")) :: .assign "result" (.var "row") ::
  oldIf :: [.setSub (.attr (.var "values") "regs") (.sub (.var "row") (.lit (.int (1)))) (.var "number"), .ret (.var "result")]) _ σ _
 generalize hρ:(((Loc.set [] "values" (V.ref P.a)).set "row" (Row.v (.ins k a b c))).set "dead" (.bool dead)) = ρ
 have g1:ρ.get "values" = some (.ref P.a):=hρ ▸ g_th (g_th g_here)
 have g2:ρ.get "row" = some (.tup [.str k.nm, .int a, .int b, .int c]):=hρ ▸ g_th g_here
 have g4:ρ.get "dead" = some (.bool dead):=hρ ▸ g_here
 refine s_assign <| x_tup <| xs_cons <| x_own g1 iv rfl hof rfl <| xs_cons <| v2 g2 <| xs_nil ⟨P, S, B, b, rfl, iv, Nat.le_of_succ_le hB, fun P1 σ1 ha iv1 kp1 => xs_cons <| v3 g2 <| xs_nil ?_⟩
 generalize hρ1:ρ.set "place" (.tup [.int (S.of b).1, .int c]) = ρ1
 have k1:ρ1.get "values" = some (.ref P1.a):=by rw [ha]; exact hρ1 ▸ g_th g1
 have k2:ρ1.get "row" = some (.tup [.str k.nm, .int a, .int b, .int c]):=hρ1 ▸ g_th g2
 have k3:ρ1.get "place" = some (.tup [.int (S.of b).1, .int c]):=hρ1 ▸ g_here
 have k4:ρ1.get "dead" = some (.bool dead):=hρ1 ▸ g_th g4
 have hnew':(if k = .ldb then none else (S.of b).2.words ((S.of b).1, c)) = none → ∀ {r}, wSs Γ newBody ρ1 σ1 (seqK Γ r (RetK Q)):=fun z {r} => by
  refine newload_run hfr hk k1 k2 k3 ⟨iv1, hB, fun P2 σ2 ha2 iv2 kp2 => ?_⟩
  have e:S.load k a b c dead = (some (.ins k a b c), (S.of b).2.loadNew k a (S.of b).1 c):=by unfold VS.load; dsimp only; rw [z]
  rw [e] at hq
  exact hq P2 σ2 (ha2.trans ha) iv2 (kp1.trans kp2)
 obtain ⟨es, e, m⟩:=iv1.wd
 refine s_if <| t_bool <| ts_cons <| t_cmp <| v0 k2 <| x_lit <| c_eqs ?_
 rcases hk with rfl | rfl
 ·refine ifF (decide_eq_false (ofs_ne (a:="LDR") (b:="LDB"))) <| ts_cons <| t_cmp <| x_var k3 <| x_at k1 iv1 rfl (v:=.ref P1.wd) rfl <| c_notin <| in_dict e m (k:=((S.of b).1, c)) rfl kW_tp ?_
  cases hn:(S.of b).2.words ((S.of b).1, c) with
  | none => exact ifT rfl <| ifT rfl <| hnew' ((if_neg (by decide)).trans hn)
  | some n =>
   have e2:S.load .ldr a b c dead = ((S.of b).2.loadOld .ldr a b c n dead, { (S.of b).2 with regs:=upd (S.of b).2.regs a n }):=by unfold VS.load; dsimp only; rw [if_neg (by decide), hn]; rfl
   rw [e2] at hq
   obtain ⟨es1, x1, m1⟩:=iv1.rg
   refine ifF rfl <| ts_nil <| ifF rfl <| s_assign <| x_sub <| x_at k1 iv1 rfl (v:=.ref P1.wd) rfl <| x_var k3 <| get_dict e m (k:=((S.of b).1, c)) rfl kW_tp hn <| s_assign <| x_var (g_th k2) <| old_test (k:=.ldr) (n:=n) (dead:=dead) hh iv1 (g_th (g_th k1)) (g_th (g_th k2)) (g_th g_here) (g_th (g_th k4)) g_here fun ρ2 hρ2 hres => ?_
   exact s_sub <| x_var ((hρ2 _ (by decide)).trans (g_th g_here)) <| x_at ((hρ2 _ (by decide)).trans (g_th (g_th k1))) iv1 rfl (v:=.ref P1.rg) rfl <| v1 ((hρ2 _ (by decide)).trans (g_th (g_th k2))) <| set_dict x1 m1 (le_dict hB) (k:=a) rfl kI_tp <| s_ret <| x_var hres <| hq P1 _ ha ((iv1.up (Nat.le_succ (B + 1))).set_rg (m1.set kI_inj a n)) (kp1.trans (KeepV.set rg_ft))
 ·exact ifT (decide_eq_true rfl) <| ifT rfl <| hnew' (if_pos rfl)
end
end Mini
end
section
namespace Mini
open PySem PySem.W PyProof.Rows
noncomputable def VS.store (S:VS) (k:Kd) (a b c:Int):Option Row × VS :=
 let p:=(S.of b).1
 let S1:=(S.of b).2
 let n:=(S1.of a).1
 let S2:=(S1.of a).2
 if k = .str ∧ (S2.words (p, c)).getD 0 = n then (none, S2)
 else (some (.ins k a b c), if k = .str then { S2.forget p k c with words:=upd (S2.forget p k c).words (p, c) n } else S2.forget p k c)
noncomputable def sp_store:Spec:=fun vs σ Q => ∃ P S B k a b c, vs = [.ref P.a, Row.v (.ins k a b c)] ∧ (k = .str ∨ k = .stb) ∧ Runs P S B (B + 3) (S.store k a b c).2 σ (Q (orow (S.store k a b c).1))
section
variable {σ:Store} {P:VP} {S:VS} {B:Nat} {Γ:GE}
noncomputable def storeTail:List Mini.S:=[.expr (.meth (.var "values") "forget_words" [(.sub (.var "place") (.lit (.int (0)))), (.var "row")]), .ite (.cmp .Eq (.sub (.var "row") (.lit (.int (0)))) (.lit (.str "STR"))) [.setSub (.attr (.var "values") "words") (.var "place") (.var "number")] [], .ret (.var "row")]
theorem store_tail (hfo:Γ.meth "forget_words" = some sp_forget) {ρ:Loc} {k:Kd} {a b c p n:Int} {K:Fl → Loc → Store → Prop} (hk:k = .str ∨ k = .stb) (g1:ρ.get "values" = some (.ref P.a)) (g2:ρ.get "row" = some (Row.v (.ins k a b c))) (g3:ρ.get "place" = some (.tup [.int p, .int c])) (g4:ρ.get "number" = some (.int n))
  (h:Runs P S B (B + 1) (if k = .str then { S.forget p k c with words:=upd (S.forget p k c).words (p, c) n } else S.forget p k c) σ (K (.ret (Row.v (.ins k a b c))) ρ)):wSs Γ storeTail ρ σ K:=by
 obtain ⟨iv, hB, hq⟩:=h
 refine s_expr <| x_own g1 iv rfl hfo rfl <| xs_cons <| w0 g3 <| xs_cons <| x_var g2 <| xs_nil ⟨P, S, B, p, k, a, b, c, rfl, iv, Nat.le_of_succ_le hB, fun P1 σ1 ha iv1 kp1 => ⟨rfl, ?_⟩⟩
 refine s_if <| t_cmp <| v0 (a:=.str k.nm) (b:=.int a) (c:=.int b) (d:=.int c) g2 <| x_lit <| c_eqs ?_
 rcases hk with rfl | rfl
 ·obtain ⟨es, x, m⟩:=iv1.wd
  exact ifT (decide_eq_true rfl) <| s_sub <| x_var g4 <| x_at g1 iv1 ha (v:=.ref P1.wd) rfl <| x_var g3 <| set_dict x m (le_dict hB) (k:=(p, c)) rfl kW_tp <| s_nil <| s_ret <| x_var g2 <| hq P1 _ ha ((iv1.up (Nat.le_succ B)).set_wd (m.set kW_inj (p, c) n)) (kp1.trans (KeepV.set wd_ft))
 ·exact ifF (decide_eq_false (ofs_ne (a:="STB") (b:="STR"))) <| s_ret <| x_var g2 <| hq P1 _ ha (iv1.up (Nat.le_succ B)) kp1
theorem ok_store (hof:Γ.meth "of" = some sp_of) (hfo:Γ.meth "forget_words" = some sp_forget) {vs:List V} {σ:Store} {Q:V → Store → Prop} (h:sp_store vs σ Q):wBody Γ ["values", "row"] b_store_row vs σ Q:=by
 obtain ⟨P, S, B, k, a, b, c, rfl, hk, hR⟩:=h
 obtain ⟨iv, hB, hq⟩:=id hR
 refine body_intro rfl ?_
 show wSs Γ (.assign "place" (.tup [(.meth (.var "values") "of" [(.sub (.var "row") (.lit (.int (2))))]), (.sub (.var "row") (.lit (.int (3))))]) :: .assign "number" (.meth (.var "values") "of" [(.sub (.var "row") (.lit (.int (1))))]) ::
  .ite (.boolop false [(.cmp .Eq (.sub (.var "row") (.lit (.int (0)))) (.lit (.str "STR"))), (.cmp .Eq (.meth (.attr (.var "values") "words") "get" [(.var "place"), (.lit (.int (0)))]) (.var "number"))]) [.ret (.lit .none)] [] :: storeTail) _ σ _
 generalize hρ:((Loc.set [] "values" (V.ref P.a)).set "row" (Row.v (.ins k a b c))) = ρ
 have g1:ρ.get "values" = some (.ref P.a):=hρ ▸ g_th g_here
 have g2:ρ.get "row" = some (.tup [.str k.nm, .int a, .int b, .int c]):=hρ ▸ g_here
 have b1:B + 1 + 1 ≤ 50000:=Nat.le_of_succ_le hB
 refine s_assign <| x_tup <| xs_cons <| x_own g1 iv rfl hof rfl <| xs_cons <| v2 g2 <| xs_nil ⟨P, S, B, b, rfl, iv, Nat.le_of_succ_le b1, fun P1 σ1 ha iv1 kp1 => xs_cons <| v3 g2 <| xs_nil ?_⟩
 generalize hρ1:ρ.set "place" (.tup [.int (S.of b).1, .int c]) = ρ1
 have k1:ρ1.get "values" = some (.ref P1.a):=by rw [ha]; exact hρ1 ▸ g_th g1
 have k2:ρ1.get "row" = some (.tup [.str k.nm, .int a, .int b, .int c]):=hρ1 ▸ g_th g2
 have k3:ρ1.get "place" = some (.tup [.int (S.of b).1, .int c]):=hρ1 ▸ g_here
 refine s_assign <| x_own k1 iv1 rfl hof rfl <| xs_cons <| v1 k2 <| xs_nil ⟨P1, (S.of b).2, B + 1, a, rfl, iv1, b1, fun P2 σ2 ha2 iv2 kp2 => ?_⟩
 show wSs Γ _ (ρ1.set "number" (.int ((S.of b).2.of a).1)) σ2 _
 generalize hρ2:ρ1.set "number" (.int ((S.of b).2.of a).1) = ρ2
 have l1:ρ2.get "values" = some (.ref P2.a):=by rw [ha2]; exact hρ2 ▸ g_th k1
 have l2:ρ2.get "row" = some (.tup [.str k.nm, .int a, .int b, .int c]):=hρ2 ▸ g_th k2
 have l3:ρ2.get "place" = some (.tup [.int (S.of b).1, .int c]):=hρ2 ▸ g_th k3
 have l4:ρ2.get "number" = some (.int ((S.of b).2.of a).1):=hρ2 ▸ g_here
 have slow:¬ (k = .str ∧ (((S.of b).2.of a).2.words ((S.of b).1, c)).getD 0 = ((S.of b).2.of a).1) → wSs Γ storeTail ρ2 σ2 (RetK Q):=fun z => by
  refine store_tail hfo hk l1 l2 l3 l4 ⟨iv2, hB, fun P3 σ3 ha3 iv3 kp3 => ?_⟩
  have e:S.store k a b c = (some (.ins k a b c), if k = .str then { ((S.of b).2.of a).2.forget (S.of b).1 k c with words:=upd (((S.of b).2.of a).2.forget (S.of b).1 k c).words ((S.of b).1, c) ((S.of b).2.of a).1 } else ((S.of b).2.of a).2.forget (S.of b).1 k c):=by unfold VS.store; dsimp only; rw [if_neg z]
  rw [e] at hq
  exact hq P3 σ3 (ha3.trans (ha2.trans ha)) iv3 ((kp1.trans kp2).trans kp3)
 obtain ⟨es, e, m⟩:=iv2.wd
 refine s_if <| t_bool <| ts_cons <| t_cmp <| v0 l2 <| x_lit <| c_eqs ?_
 rcases hk with rfl | rfl
 ·refine ifnT (decide_eq_true rfl) <| ts_cons <| t_cmp <| x_meth <| x_at l1 iv2 rfl (v:=.ref P2.wd) rfl <| dict_kind e <| xs_cons <| x_var l3 <| xs_cons <| x_lit <| xs_nil <| getd_dict e m (k:=((S.of b).1, c)) (i:=0) rfl kW_tp <| x_var l4 <| c_eqi <| ifnD (fun hn => ifF rfl <| slow fun z => hn z.2) fun hn => ts_nil <| ifT rfl <| s_ret <| x_lit ?_
  have e:S.store .str a b c = (none, ((S.of b).2.of a).2):=by unfold VS.store; dsimp only; rw [if_pos ⟨rfl, hn⟩]
  rw [e] at hq
  exact hq P2 σ2 (ha2.trans ha) (iv2.up (Nat.le_succ _)) (kp1.trans kp2)
 ·exact ifnF (decide_eq_false (ofs_ne (a:="STB") (b:="STR"))) <| ifF rfl <| slow fun z => nomatch z.1
end
end Mini
end
section
namespace Mini
open PySem PySem.W PyProof.Rows
section
variable {σ:Store} {Γ:GE}
noncomputable def condNames:List String:=["EQ", "NE", "MI", "CS", "VS", "LT", "NV"]
noncomputable def Kd.regd:Kd → Bool
 | .mov => true | .movh => true | .geth => true | .op _ => true | _ => false
noncomputable def Row.Ok:Row → Prop
 | .ins k a b d => 0 ≤ a ∧ a < 16 ∧ 0 ≤ b ∧ b < 16 ∧ (k.mem = true → 0 ≤ d ∧ d ≤ 8) ∧ (k.regd = true → 0 ≤ d ∧ d < 16)
 | .trap c _ _ => ∃ s ∈ condNames, c = Str.ofString s
noncomputable def deads:List Row → List Bool × Bool
 | [] => ([], false)
 | r :: rs => ((deads rs).2 :: (deads rs).1, if r.ctl then false else if r.fl then true else (deads rs).2)
theorem deads_len (rs:List Row):(deads rs).1.length = rs.length:=by
 induction rs with
 | nil => rfl
 | cons r rs ih => exact congrArg Nat.succ ih
theorem set_rep {α:Type} {a x:α} {l:List α} {m:Nat}:(List.replicate (m + 1) a ++ l).set m x = List.replicate m a ++ x :: l:=by
 induction m with
 | zero => rfl
 | succ m ih => exact congrArg (a :: ·) ih
theorem len_map {α β:Type} {f:α → β} {l:List α} {n m:Nat} (h:l.length ≤ n) (k:n ≤ m):(l.map f).length ≤ m:=by rw [List.length_map]; exact Nat.le_trans h k
theorem at_map {α β:Type} {f:α → β} {l:List α} {j:Nat} {x:α} (h:l[j]? = some x):(l.map f)[j]? = some (f x):=by rw [List.getElem?_map, h]; rfl
noncomputable def deadBody:List Mini.S:=[.setSub (.var "found") (.var "place") (.var "dead"), .assign "row" (.sub (.var "rows") (.var "place")), .ite (.call "is_control" [(.var "row")]) [.assign "dead" (.lit (.bool false))] [.ite (.cmp .Eq (.bin .BitAnd (.bin .RShift (.call "write_set" [(.var "row")]) (.glob "FLAGS")) (.lit (.int (1)))) (.lit (.int (1)))) [.assign "dead" (.lit (.bool true))] []]]
noncomputable def sp_dead:Spec:=fun vs σ Q => ∃ r rows, vs = [.ref r] ∧ σ r = some (.list (rows.map Row.v)) ∧ rows.length ≤ 1000 ∧ (∀ x ∈ rows, x.Ok) ∧ ∀ d σ', σ d = none → σ' d = some (.list ((deads rows).1.map V.bool)) → (∀ b, b ≠ d → (σ b).isSome = true → σ' b = σ b) → Q (.ref d) σ'
theorem dead_turn (hc:Γ.fn "is_control" = some (sp_row fun r => .bool r.ctl)) (hw:Γ.fn "write_set" = some sp_write_set) (hf:Γ.glob "FLAGS" = some (.int 17)) {ρ:Loc} {r d:Addr} {rows:List Row} {j:Nat} {row:Row} {bs:List V} {dead:Bool} {K:Fl → Loc → Store → Prop}
  (g1:ρ.get "found" = some (.ref d)) (g2:ρ.get "place" = some (.int j)) (g3:ρ.get "dead" = some (.bool dead)) (g4:ρ.get "rows" = some (.ref r)) (e1:σ d = some (.list bs)) (e2:σ r = some (.list (rows.map Row.v))) (ne:r ≠ d) (hl:rows.length ≤ 1000) (hb:bs.length = rows.length) (hj:rows[j]? = some row) (hok:row.Ok)
  (h:∀ ρ', ρ'.get "found" = some (.ref d) → ρ'.get "rows" = some (.ref r) → ρ'.get "dead" = some (.bool (if row.ctl then false else if row.fl then true else dead)) → K .next ρ' (σ.set d (.list (bs.set j (.bool dead))))):wSs Γ deadBody ρ σ K:=by
 have lj:=(List.getElem?_eq_some_iff.mp hj).1
 have nx:∀ {ρ':Loc}, (∀ x:String, x ≠ "row" → x ≠ "dead" → ρ'.get (Str.ofString x) = ρ.get (Str.ofString x)) → ρ'.get "dead" = some (.bool (if row.ctl then false else if row.fl then true else dead)) → K .next ρ' (σ.set d (.list (bs.set j (.bool dead)))):=fun q1 q2 => h _ ((q1 _ (by decide) (by decide)).trans g1) ((q1 _ (by decide) (by decide)).trans g4) q2
 have g2r:∀ {u v:V} (x:String), x ≠ "row" → x ≠ "dead" → ((ρ.set "row" u).set "dead" v).get (Str.ofString x) = ρ.get (Str.ofString x):=fun x h1 h2 => (lget_ne h2).trans (lget_ne h1)
 refine s_sub <| x_var g3 <| x_var g1 <| x_var g2 <| lst_set e1 rfl (Nat.le_trans (Nat.le_of_eq hb) (Nat.le_trans hl (by decide))) (Nat.lt_of_lt_of_eq lj hb.symm) <| s_assign <| x_sub <| x_var g4 <| x_var g2 <| lst_at ((set_ne ne).trans e2) (len_map hl (by decide)) (at_map hj) <| s_ite <| t_call hc <| xs_cons <| x_var g_here <| xs_nil ⟨row, rfl, truth ?_⟩
 cases row with
 | trap c n m => exact ifT rfl <| s_assign <| x_lit <| s_nil <| nx g2r g_here
 | ins k a b c =>
  refine ifF rfl <| s_if <| t_cmp <| x_bin <| x_bin <| x_call hw <| xs_cons <| x_var g_here <| xs_nil ⟨k, a, b, c, rfl, hok.1, Int.lt_trans hok.2.1 (by decide), fun w hw => x_glob hf <| n_shr (by decide) <| x_lit <| n_and <| x_lit <| c_eqi ?_⟩
  cases hk:k.fl with
  | true =>
   rw [hk] at hw
   refine ifT (decide_eq_true hw) <| s_assign <| x_lit <| s_nil <| nx g2r ?_
   have:(if (Row.ins k a b c).ctl = true then false else if (Row.ins k a b c).fl = true then true else dead) = true:=by show (if false = true then false else if k.fl = true then true else dead) = true; rw [hk]; rfl
   rw [this]; exact g_here
  | false =>
   rw [hk] at hw
   refine ifF (decide_eq_false fun z => absurd (hw.symm.trans z) (by decide)) <| s_nil <| nx (fun x h1 _ => lget_ne h1) ?_
   have:(if (Row.ins k a b c).ctl = true then false else if (Row.ins k a b c).fl = true then true else dead) = dead:=by show (if false = true then false else if k.fl = true then true else dead) = dead; rw [hk]; rfl
   rw [this]; exact g_th g3
theorem ok_dead (hc:Γ.fn "is_control" = some (sp_row fun r => .bool r.ctl)) (hw:Γ.fn "write_set" = some sp_write_set) (hf:Γ.glob "FLAGS" = some (.int 17)) {vs:List V} {σ:Store} {Q:V → Store → Prop} (h:sp_dead vs σ Q):wBody Γ ["rows"] b_dead_flags vs σ Q:=by
 obtain ⟨r, rows, rfl, e, hl, hok, hq⟩:=h
 refine body_intro rfl ?_
 show wSs Γ (.assign "found" (.bin .Mult (.list [(.lit (.bool false))]) (.bcall .len [(.var "rows")])) :: .assign "dead" (.lit (.bool false)) :: .for_ "place" (.range [(.bin .Sub (.bcall .len [(.var "rows")]) (.lit (.int (1)))), (.neg (.lit (.int (1)))), (.neg (.lit (.int (1))))]) deadBody :: [.ret (.var "found")]) _ σ _
 generalize hρ:(Loc.set [] "rows" (V.ref r)) = ρ
 have g1:ρ.get "rows" = some (.ref r):=hρ ▸ g_here
 refine s_assign <| x_bin <| x_list <| xs_cons <| x_lit <| xs_nil fun b0 hb0 => ?_
 have nb0:∀ {y}, (σ y).isSome = true → y ≠ b0:=fun h z => by rw [z, hb0] at h; exact nomatch h
 have sr:(σ r).isSome = true:=by rw [e]; rfl
 have e0:(σ.set b0 (.list [.bool false])) r = some (.list (rows.map Row.v)):=(set_ne (nb0 sr)).trans e
 have l0:(rows.map Row.v).length ≤ 1000:=len_map hl (Nat.le_refl _)
 refine x_bcall <| xs_cons <| x_var g1 <| xs_nil <| lst_len e0 (Nat.le_trans l0 (by decide)) ⟨.bool false, set_eq, Int.natCast_nonneg _, Int.ofNat_le.mpr l0, fun d hd => ?_⟩
 rw [Int.toNat_natCast, List.length_map]
 have d1:d ≠ b0:=fun z => by rw [z, set_eq] at hd; exact nomatch hd
 have hd:σ d = none:=(set_ne d1).symm.trans hd
 have nd:r ≠ d:=fun z => by rw [z, hd] at sr; exact nomatch sr
 refine s_assign <| x_lit ?_
 generalize hρ1:((ρ.set "found" (V.ref d)).set "dead" (.bool false)) = ρ1
 have k1:ρ1.get "rows" = some (.ref r):=hρ1 ▸ g_th (g_th g1)
 have k2:ρ1.get "found" = some (.ref d):=hρ1 ▸ g_th g_here
 have k3:ρ1.get "dead" = some (.bool false):=hρ1 ▸ g_here
 generalize hσ1:(((σ.set b0 (.list [.bool false])).set d (.list (List.replicate rows.length (.bool false))))) = σ1
 have er:σ1 r = some (.list (rows.map Row.v)):=hσ1 ▸ (set_ne nd).trans e0
 have ed:σ1 d = some (.list (List.replicate rows.length (.bool false))):=hσ1 ▸ set_eq
 have ko:∀ b, b ≠ d → (σ b).isSome = true → σ1 b = σ b:=fun b n1 n2 => hσ1 ▸ (set_ne n1).trans (set_ne (nb0 n2))
 refine s_for <| i_range <| xs_cons <| x_bin <| x_bcall <| xs_cons <| x_var k1 <| xs_nil <| lst_len er (Nat.le_trans l0 (by decide)) <| x_lit <| n_sub <| xs_cons <| x_neg <| xs_cons <| x_neg <| xs_nil <| r_down ?_ (by decide) ?_
 ·exact ⟨Int.le_trans (by decide) (Int.sub_le_sub_right (Int.natCast_nonneg _) 1), Int.le_trans (Int.sub_le_self _ (by decide)) (Int.le_trans (Int.ofNat_le.mpr l0) (by decide))⟩
 rw [List.length_map, range_down]
 refine for_range (fun j ρ σ' => ρ.get "rows" = some (.ref r) ∧ ρ.get "found" = some (.ref d) ∧ ρ.get "dead" = some (.bool (deads (rows.drop (rows.length - j))).2) ∧
  σ' = σ1.set d (.list (List.replicate (rows.length - j) (V.bool false) ++ (deads (rows.drop (rows.length - j))).1.map V.bool))) ?_ ?_ ?_
 ·rw [Nat.sub_zero, List.drop_length]
  refine ⟨k1, k2, k3, ?_⟩
  rw [show (deads []).1.map V.bool = [] from rfl, List.append_nil, set_same ed]
 ·rintro j ρ' σ' K' hj ⟨i1, i2, i3, i4⟩ q1 q2 q3
  have hm:rows.length - j = rows.length - (j + 1) + 1:=(Nat.succ_pred_eq_of_pos (Nat.sub_pos_of_lt hj)).symm
  have lm:rows.length - (j + 1) < rows.length:=Nat.sub_lt (Nat.lt_of_le_of_lt (Nat.zero_le j) hj) (Nat.succ_pos j)
  have jj:(rows.length:Int) - 1 - j = (rows.length - (j + 1):Nat):=by rw [Int.natCast_sub hj, Int.sub_sub, Int.add_comm 1]; rfl
  rw [hm] at i3 i4
  rw [jj, i4]
  generalize rows.length - (j + 1) = m at hm lm q2 i3
  have edr:rows.drop m = rows[m] :: rows.drop (m + 1):=List.drop_eq_getElem_cons lm
  refine dead_turn hc hw hf (j:=m) (row:=rows[m]) (rows:=rows) (d:=d) (r:=r) (dead:=(deads (rows.drop (m + 1))).2) (g_th i2) g_here (g_th i3) (g_th i1) set_eq ((set_ne nd).trans er) nd hl ?_ (List.getElem?_eq_getElem lm) (hok _ (List.getElem_mem lm)) fun ρ2 r1 r2 r3 => q2 _ _ ⟨r2, r1, ?_, ?_⟩
  ·rw [List.length_append, List.length_replicate, List.length_map, deads_len, List.length_drop]; exact Nat.add_sub_of_le lm
  ·rw [r3, edr]; rfl
  ·rw [set_set, set_rep, edr]; rfl
 ·rintro ρ' σ' ⟨i1, i2, i3, i4⟩
  rw [Nat.sub_self] at i4
  refine s_ret <| x_var i2 <| hq d σ' hd ?_ fun b n1 n2 => ?_
  ·rw [i4]; exact set_eq
  ·rw [i4]; exact (set_ne n1).trans (ko b n1 n2)
end
end Mini
end
section
namespace Mini
open PySem PySem.W PyProof.Rows
theorem of_consts (S:VS) (r:Int):(S.of r).2.consts = S.consts:=by unfold VS.of; cases S.regs r <;> rfl
theorem imm_consts (S:VS) (k:Kd) (a b d:Int):(S.imm k a b d).2.consts = S.consts:=by
 unfold VS.imm
 cases k with
 | op o =>
  dsimp only
  cases h:(S.of d).2.consts (S.of d).1 with
  | none => exact of_consts S d
  | some x => dsimp only; cases h2:asImm x <;> exact of_consts S d
 | _ => rfl
theorem better_all {S:VS} {C:Option Row × VS → Prop} {k:Kd} {a b d n:Int} {dead:Bool} (h1:C (some (S.imm k a b d).1, (S.imm k a b d).2)) (h2:k.base ≠ "MUL" → dead = true → (S.regs a).getD 0 = n → C (none, S)) (h3:k.base ≠ "MUL" → ∀ r, S.short k a n dead = some r → C (some r, S)):C (S.better k a b d n dead):=by
 unfold VS.better
 by_cases q:k.base = "MUL" ∨ k = .geth
 ·rw [if_pos q]; exact h1
 ·rw [if_neg q]
  have q:=fun z => q (.inl z)
  by_cases q2:dead = true ∧ (S.regs a).getD 0 = n
  ·rw [if_pos q2]; exact h2 q q2.1 q2.2
  ·rw [if_neg q2]
   cases hs:S.short k a n dead with
   | none => exact h1
   | some r => exact h3 q r hs
theorem short_some {S:VS} {k:Kd} {a n:Int} {dead:Bool} {r:Row} (h:S.short k a n dead = some r):(dead = true ∨ keepsM k.base = true ∨ k = .movh) ∧ ((∃ x i, S.consts n = some x ∧ asImm x = some i ∧ r = .ins .movi a 0 i) ∨ (S.holder n a ≥ 0 ∧ r = .ins .mov a 0 (S.holder n a))):=by
 unfold VS.short at h
 by_cases hf:((dead || keepsM k.base || decide (k = .movh)) && !(decide (k = .mov) || decide (k = .movi))) = true
 ·rw [if_pos hf] at h
  refine ⟨?_, ?_⟩
  ·rcases Bool.or_eq_true_iff.mp (Bool.and_eq_true_iff.mp hf).1 with q | q
   ·exact (Bool.or_eq_true_iff.mp q).imp_right .inl
   ·exact .inr (.inr (of_decide_eq_true q))
  ·cases hi:(S.consts n).bind asImm with
   | some i =>
    rw [hi] at h
    obtain ⟨x, h1, h2⟩:=Option.bind_eq_some_iff.mp hi
    exact .inl ⟨x, i, h1, h2, (Option.some.inj h).symm⟩
   | none =>
    rw [hi] at h
    by_cases hh:S.holder n a ≥ 0
    ·exact .inr ⟨hh, (Option.some.inj ((if_pos hh).symm.trans h)).symm⟩
    ·exact nomatch (if_neg hh).symm.trans h
 ·rw [if_neg hf] at h; exact nomatch h
theorem VS.load_new {S:VS} {k:Kd} {a b c:Int} {d:Bool} (h:(if k = .ldb then none else (S.of b).2.words ((S.of b).1, c)) = none):S.load k a b c d = (some (.ins k a b c), (S.of b).2.loadNew k a (S.of b).1 c):=by unfold VS.load; dsimp only; rw [h]
theorem VS.load_old {S:VS} {k:Kd} {a b c n:Int} {d:Bool} (h:(if k = .ldb then none else (S.of b).2.words ((S.of b).1, c)) = some n):S.load k a b c d = ((S.of b).2.loadOld k a b c n d, { (S.of b).2 with regs:=upd (S.of b).2.regs a n }):=by unfold VS.load; dsimp only; rw [h]; rfl
theorem better_consts (S:VS) (k:Kd) (a b d n:Int) (dead:Bool):(S.better k a b d n dead).2.consts = S.consts:=better_all (C:=fun p => p.2.consts = S.consts) (imm_consts ..) (fun _ _ _ => rfl) fun _ _ _ => rfl
theorem load_consts (S:VS) (k:Kd) (a b c:Int) (dead:Bool):(S.load k a b c dead).2.consts = S.consts:=by
 cases h:(if k = .ldb then none else (S.of b).2.words ((S.of b).1, c)) with
 | none => rw [VS.load_new h]; exact of_consts S b
 | some n => rw [VS.load_old h]; exact of_consts S b
theorem store_consts (S:VS) (k:Kd) (a b c:Int):(S.store k a b c).2.consts = S.consts:=by
 have e:((S.of b).2.of a).2.consts = S.consts:=(of_consts _ a).trans (of_consts S b)
 exact iteInduction (motive:=fun p:Option Row × VS => p.2.consts = S.consts) (fun _ => e) fun _ => iteInduction (motive:=fun T:VS => T.consts = S.consts) (fun _ => e) fun _ => e
theorem fixed_consts (S:VS) (r:Row):(S.fixed r).consts = S.consts:=by
 unfold VS.fixed
 cases r with
 | trap => rfl
 | ins k a b d => exact iteInduction (motive:=fun T:VS => T.consts = S.consts) (fun _ => rfl) fun _ => rfl
theorem VS.Ok.tabled {S:VS} (h:S.Ok) (k:Str × Int × Int):(S.tabled k).2.Ok:=by
 unfold VS.tabled; cases S.table k <;> exact h
theorem VS.Ok.same {S T:VS} (h:S.Ok) (e:T.consts = S.consts):T.Ok:=fun n x q => h n x (by rw [← e]; exact q)
end Mini
end
section
namespace Mini
open PySem PySem.W PyProof.Rows
theorem nat_and (x y:Int) (hx:0 ≤ x) (hy:0 ≤ y):Builtin.bitAnd x y = (x.toNat &&& y.toNat:Nat):=by
 unfold Builtin.bitAnd
 rw [decide_eq_true hx, decide_eq_true hy]
theorem not_neg {x:Int} (h:0 ≤ x):¬ (0 ≤ Builtin.bitNot x):=fun z => absurd (Int.le_trans (Int.sub_nonneg.mp z) (Int.neg_nonpos_of_nonneg h)) (by decide)
theorem not_not' (x:Int):Builtin.bitNot (Builtin.bitNot x) = x:=by unfold Builtin.bitNot; rw [Int.neg_sub, Int.sub_neg, Int.add_comm, Int.add_sub_cancel]
theorem nat_or (x y:Int) (hx:0 ≤ x) (hy:0 ≤ y):Builtin.bitOr x y = (x.toNat ||| y.toNat:Nat):=by
 unfold Builtin.bitOr Builtin.bitAnd
 rw [decide_eq_false (not_neg hx), decide_eq_false (not_neg hy)]
 dsimp only
 rw [not_not', not_not', not_not']
theorem rg_nat {x:Int} (h:Rg x):x.toNat < 2 ^ 32:=(Int.toNat_lt h.1).mpr h.2
theorem nat_rg {n:Nat} (h:n < 2 ^ 32):Rg n:=⟨Int.natCast_nonneg n, Int.ofNat_lt.mpr h⟩
theorem and_rg {x y:Int} (hx:Rg x) (hy:Rg y):Rg (Builtin.bitAnd x y):=by
 rw [nat_and x y hx.1 hy.1]
 exact nat_rg (Nat.lt_of_le_of_lt Nat.and_le_left (rg_nat hx))
theorem xor_rg {x y:Int} (hx:Rg x) (hy:Rg y):Rg (Builtin.bitXor x y):=by
 unfold Builtin.bitXor
 rw [nat_or x y hx.1 hy.1, nat_and x y hx.1 hy.1, ← Int.natCast_sub (Nat.le_trans Nat.and_le_left Nat.left_le_or)]
 exact nat_rg (Nat.lt_of_le_of_lt (Nat.sub_le _ _) (Nat.or_lt_two_pow (rg_nat hx) (rg_nat hy)))
theorem and_comm' (x y:Int):Builtin.bitAnd x y = Builtin.bitAnd y x:=by
 unfold Builtin.bitAnd
 cases decide (0 ≤ x) <;> cases decide (0 ≤ y) <;> dsimp only <;> first | rw [Nat.and_comm] | rw [Nat.or_comm]
theorem xor_comm' (x y:Int):Builtin.bitXor x y = Builtin.bitXor y x:=by
 unfold Builtin.bitXor Builtin.bitOr
 rw [and_comm' x y, and_comm' (Builtin.bitNot x)]
theorem alu_rg {nm:Str} {x y:Int} (hx:Rg x) (hy:Rg y):Rg (alu nm x y) :=
 iteInduction (motive:=Rg) (fun _ => mod_rg _) fun _ => iteInduction (motive:=Rg) (fun _ => mod_rg _) fun _ => iteInduction (motive:=Rg) (fun _ => mod_rg _) fun _ => iteInduction (motive:=Rg) (fun _ => mod_rg _) fun _ => iteInduction (motive:=Rg) (fun _ => and_rg hx hy) fun _ => xor_rg hx hy
theorem even_odd:evenH (Str.ofString "SUB") = false ∧ evenH (Str.ofString "LSL") = false:=by decide +kernel
theorem alu_mul (x y:Int):alu (Str.ofString "MUL") x y = aMul x y:=(if_neg ofs_ne).trans ((if_neg ofs_ne).trans (if_pos rfl))
theorem alu_comm {nm:Str} {x y:Int} (h:evenH nm = true) (hn:OpNm nm):alu nm x y = alu nm y x:=by
 rcases hn with rfl | rfl | rfl | rfl | rfl | rfl
 ·exact (if_pos rfl).trans ((congrArg (· % 4294967296) (Int.add_comm x y)).trans (if_pos rfl).symm)
 ·rw [even_odd.1] at h; exact nomatch h
 ·rw [alu_mul, alu_mul]; exact congrArg (· % 4294967296) (Int.mul_comm _ _)
 ·rw [even_odd.2] at h; exact nomatch h
 ·rw [alu_and, alu_and]; exact and_comm' _ _
 ·rw [alu_xor, alu_xor]; exact xor_comm' _ _
theorem VS.Ok.calculated {S:VS} (h:S.Ok) (nm:Str) (l r:Int):(S.calculated nm l r).2.Ok:=by
 unfold VS.calculated
 split
 ·rename_i x y hx hy; exact h.const (alu_rg (h _ _ hx) (h _ _ hy))
 ·exact h.tabled _
theorem VS.Ok.result {S:VS} (h:S.Ok) (k:Kd) (a b d:Int) (hm:k = .movh → Rg (d * 65536)):(S.result k a b d).2.Ok:=by
 cases k with
 | mov => exact h.of d
 | movi => exact h.const (mod_rg d)
 | movh => exact h.const (hm rfl)
 | op o => exact ((h.of b).of d).calculated _ _ _
 | opi o => exact ((h.of b).const (mod_rg d)).calculated _ _ _
 | ldr => exact h
 | ldb => exact h
 | str => exact h
 | stb => exact h
 | geth => exact h
noncomputable def VS.simp1 (S:VS) (fx:Bool) (r:Row) (dead:Bool):Option Row × VS:=match r with
 | .trap c n m => (some (.trap c n m), S)
 | .ins k a b c => if fx = true then (some (.ins k a b c), S.fixed (.ins k a b c)) else if k.load = true then S.load k a b c dead else if k.store = true then S.store k a b c
  else (((S.result k a b c).2.better k a b c (S.result k a b c).1 dead).1, { ((S.result k a b c).2.better k a b c (S.result k a b c).1 dead).2 with regs:=upd ((S.result k a b c).2.better k a b c (S.result k a b c).1 dead).2.regs a (S.result k a b c).1 })
theorem Row.Ok.movh {k:Kd} {a b c:Int} (h:(Row.ins k a b c).Ok) (e:k = .movh):Rg (c * 65536):=by
 subst e
 have:=h.2.2.2.2.2 rfl
 exact ⟨Int.mul_nonneg this.1 (by decide), Int.lt_of_lt_of_le (Int.mul_lt_mul_of_pos_right this.2 (by decide)) (by decide)⟩
theorem VS.Ok.simp1 {S:VS} (h:S.Ok) (fx:Bool) (r:Row) (dead:Bool) (hr:r.Ok):(S.simp1 fx r dead).2.Ok:=by
 cases r with
 | trap => exact h
 | ins k a b c => exact iteInduction (motive:=fun p:Option Row × VS => p.2.Ok) (fun _ => h.same (fixed_consts ..)) fun _ => iteInduction (motive:=fun p:Option Row × VS => p.2.Ok) (fun _ => h.same (load_consts ..)) fun _ => iteInduction (motive:=fun p:Option Row × VS => p.2.Ok) (fun _ => h.same (store_consts ..)) fun _ => (h.result k a b c hr.movh).same (better_consts ..)
noncomputable def simpL (S:VS) (fx:Int → Bool):Nat → List Row → List Bool → List (Option Row)
 | i, r :: rs, d :: ds => (S.simp1 (fx i) r d).1 :: simpL (S.simp1 (fx i) r d).2 fx (i + 1) rs ds
 | _, _, _ => []
noncomputable def FixD (σ:Store) (f:Addr) (fx:Int → Bool):Prop:=∃ es, σ f = some (.dict es) ∧ es.length ≤ 1000 ∧ (∀ e ∈ es, e.1.isTp = false) ∧ ∀ i, (aget es (kI i)).isSome = fx i
section
variable {σ σ':Store} {P P':VP} {S:VS} {B:Nat} {Γ:GE}
theorem FixD.in_ {f:Addr} {fx:Int → Bool} (h:FixD σ f fx) {i:Int} {K:Bool → Prop} (q:K (fx i)):isIn σ (.int i) (.ref f) K:=by
 obtain ⟨es, e, _, t, g⟩:=h
 unfold isIn
 dsimp only
 rw [e]
 exact ⟨kI i, rfl, fun en he => by rw [t en he]; rfl, by rw [g i]; exact q⟩
noncomputable def Held (σ0 σ:Store) (P:VP):Prop:=∀ b o, σ0 b = some o → σ b = some o ∧ b ∉ P.foot
theorem Held.keep {σ0:Store} (h:Held σ0 σ P) (k:KeepV P P' σ σ'):Held σ0 σ' P':=fun b o e => by
 obtain ⟨h1, h2⟩:=h b o e
 exact ⟨k.keep b o h1 h2, k.foot b (by rw [h1]; rfl) h2⟩
theorem Held.set {σ0:Store} (h:Held σ0 σ P) {b:Addr} {o:MObj} (n:σ0 b = none):Held σ0 (σ.set b o) P:=fun x o' e => by
 obtain ⟨h1, h2⟩:=h x o' e
 exact ⟨(set_ne (fun z => by subst z; rw [n] at e; exact nomatch e)).trans h1, h2⟩
end
end Mini
end
section
namespace Mini
open PySem PySem.W PyProof.Rows
structure SimpFns (Γ:GE):Prop where
 ctl:Γ.fn "is_control" = some (sp_row fun r => .bool r.ctl)
 fixed:Γ.fn "fixed_row" = some sp_fixed
 isl:Γ.fn "is_load" = some (sp_row fun r => .bool r.load)
 iss:Γ.fn "is_store" = some (sp_row fun r => .bool r.store)
 load:Γ.fn "load_row" = some sp_load
 store:Γ.fn "store_row" = some sp_store
 result:Γ.fn "result_number" = some sp_result
 better:Γ.fn "better_row" = some sp_better
section
variable {σ σ':Store} {P P':VP} {S:VS} {B:Nat} {Γ:GE}
noncomputable def calcBody:List Mini.S:=[.assign "number" (.call "result_number" [(.var "values"), (.var "row")]), .assign "better" (.call "better_row" [(.var "values"), (.var "row"), (.var "number"), (.sub (.var "dead") (.var "place"))]), .setSub (.attr (.var "values") "regs") (.sub (.var "row") (.lit (.int (1)))) (.var "number")]
noncomputable def midS:Mini.S:=.ite (.boolop true [(.cmp .In (.var "place") (.var "fixed")), (.call "is_control" [(.var "row")])]) [.expr (.call "fixed_row" [(.var "values"), (.var "row")])] [.ite (.call "is_load" [(.var "row")]) [.assign "better" (.call "load_row" [(.var "values"), (.var "row"), (.sub (.var "dead") (.var "place"))])] [.ite (.call "is_store" [(.var "row")]) [.assign "better" (.call "store_row" [(.var "values"), (.var "row")])] calcBody]]
theorem calc_run (F:SimpFns Γ) {ρ:Loc} {k:Kd} {a b c:Int} {dd:Addr} {bs:List V} {j:Nat} {dead:Bool} {K:Fl → Loc → Store → Prop} (iv:IsV σ P S B) (hB:B + 5 ≤ 50000) (hS:S.Ok) (hr:(Row.ins k a b c).Ok)
  (g1:ρ.get "values" = some (.ref P.a)) (g2:ρ.get "row" = some (Row.v (.ins k a b c))) (g3:ρ.get "dead" = some (.ref dd)) (g4:ρ.get "place" = some (.int j)) (ed:σ dd = some (.list bs)) (nd:dd ∉ P.foot) (hb:bs.length ≤ 1000) (hj:bs[j]? = some (.bool dead))
  (h:∀ P' σ' ρ', P'.a = P.a → IsV σ' P' { ((S.result k a b c).2.better k a b c (S.result k a b c).1 dead).2 with regs:=upd ((S.result k a b c).2.better k a b c (S.result k a b c).1 dead).2.regs a (S.result k a b c).1 } (B + 5) → KeepV P P' σ σ' → (∀ x:String, x ≠ "number" → x ≠ "better" → ρ'.get (Str.ofString x) = ρ.get (Str.ofString x)) →
   ρ'.get "better" = some (orow ((S.result k a b c).2.better k a b c (S.result k a b c).1 dead).1) → K .next ρ' σ'):wSs Γ calcBody ρ σ K:=by
 have b4:B + 4 ≤ 50000:=Nat.le_of_succ_le hB
 refine s_assign <| x_call F.result <| xs_cons <| x_var g1 <| xs_cons <| x_var g2 <| xs_nil ⟨P, S, B, k, a, b, c, rfl, hS, hr.movh, iv, Nat.le_of_succ_le b4, fun P1 σ1 ha iv1 kp1 => ?_⟩
 show wSs Γ _ (ρ.set "number" (.int (S.result k a b c).1)) σ1 _
 refine s_assign <| x_call F.better <| xs_cons <| x_var (g_th g1) <| xs_cons <| x_var (g_th g2) <| xs_cons <| x_var g_here <| xs_cons <| x_sub <| x_var (g_th g3) <| x_var (g_th g4) <| lst_at (kp1.keep _ _ ed nd) (Nat.le_trans hb (by decide)) hj <| xs_nil ⟨P1, (S.result k a b c).2, B + 3, k, a, b, c, _, dead, by rw [ha], iv1, b4, fun P2 σ2 ha2 iv2 kp2 => ?_⟩
 obtain ⟨es, e, m⟩:=iv2.rg
 exact s_sub <| x_var (g_th g_here) <| x_at (g_th (g_th g1)) iv2 (ha2.trans ha) (v:=.ref P2.rg) rfl <| v1 (a:=.str k.nm) (b:=.int a) (c:=.int b) (d:=.int c) (g_th (g_th g2)) <| set_dict e m (le_dict hB) (k:=a) rfl kI_tp <| s_nil <| h P2 _ _ (ha2.trans ha) ((iv2.up (Nat.le_succ (B + 3 + 1))).set_rg (m.set kI_inj a (S.result k a b c).1)) ((kp1.trans kp2).trans (KeepV.set rg_ft)) (fun x h1 h2 => (lget_ne h2).trans (lget_ne h1)) g_here
theorem mem_load:∀ k ∈ allKd, k.load = true → k = .ldr ∨ k = .ldb:=by decide +kernel
theorem mem_store:∀ k ∈ allKd, k.store = true → k = .str ∨ k = .stb:=by decide +kernel
theorem mid_run (F:SimpFns Γ) {ρ:Loc} {r:Row} {dd f:Addr} {fx:Int → Bool} {bs:List V} {j:Nat} {dead:Bool} {K:Fl → Loc → Store → Prop} {rs:List Mini.S} (iv:IsV σ P S B) (hB:B + 5 ≤ 50000) (hS:S.Ok) (hr:r.Ok)
  (g1:ρ.get "values" = some (.ref P.a)) (g2:ρ.get "row" = some r.v) (g3:ρ.get "dead" = some (.ref dd)) (g4:ρ.get "place" = some (.int j)) (g5:ρ.get "fixed" = some (.ref f)) (g6:ρ.get "better" = some r.v) (ef:FixD σ f fx) (ed:σ dd = some (.list bs)) (nd:dd ∉ P.foot) (hb:bs.length ≤ 1000) (hj:bs[j]? = some (.bool dead))
  (h:∀ P' σ' ρ', P'.a = P.a → IsV σ' P' (S.simp1 (fx j) r dead).2 (B + 5) → KeepV P P' σ σ' → (∀ x:String, x ≠ "number" → x ≠ "better" → ρ'.get (Str.ofString x) = ρ.get (Str.ofString x)) →
   ρ'.get "better" = some (orow (S.simp1 (fx j) r dead).1) → wSs Γ rs ρ' σ' K):wSs Γ (midS :: rs) ρ σ K:=by
 have fixr:(S.simp1 (fx j) r dead = (some r, S.fixed r)) → wSs Γ [.expr (.call "fixed_row" [(.var "values"), (.var "row")])] ρ σ (seqK Γ rs K):=fun z => by
  rw [z] at h
  exact s_expr <| x_call F.fixed <| xs_cons <| x_var g1 <| xs_cons <| x_var g2 <| xs_nil ⟨P, S, B, r, rfl, iv, Nat.le_trans (Nat.add_le_add_left (by decide) B) hB, fun P1 σ1 ha iv1 kp1 => ⟨rfl, s_nil <| h P1 σ1 ρ ha (iv1.up (Nat.add_le_add_left (by decide) B)) kp1 (fun _ _ _ => rfl) g6⟩⟩
 refine s_ite <| t_bool <| ts_cons <| t_cmp <| x_var g4 <| x_var g5 <| c_in <| ef.in_ <| ifC (fun q => ifT rfl <| fixr ?_) fun q => ts_cons <| t_call F.ctl <| xs_cons <| x_var g2 <| xs_nil ⟨r, rfl, truth ?_⟩
 ·cases r with
  | trap => rfl
  | ins k a b c => exact if_pos q
 have q':¬ fx j = true:=fun z => Bool.false_ne_true (q.symm.trans z)
 cases r with
 | trap c n m => exact ifT rfl <| ifT rfl <| fixr rfl
 | ins k a b c =>
  have b3:B + 3 ≤ B + 5:=Nat.add_le_add_left (by decide) B
  refine ifF rfl <| ts_nil <| ifF rfl <| s_ite <| t_call F.isl <| xs_cons <| x_var g2 <| xs_nil ⟨.ins k a b c, rfl, truth <| ifC (fun hl => ?_) fun hl => ?_⟩
  ·have hl:k.load = true:=hl
   have e3:S.simp1 (fx j) (.ins k a b c) dead = S.load k a b c dead:=(if_neg q').trans (if_pos hl)
   rw [e3] at h
   exact s_assign <| x_call F.load <| xs_cons <| x_var g1 <| xs_cons <| x_var g2 <| xs_cons <| x_sub <| x_var g3 <| x_var g4 <| lst_at ed (Nat.le_trans hb (by decide)) hj <| xs_nil ⟨P, S, B, k, a, b, c, dead, rfl, mem_load k (mem_allKd k) hl, iv, Nat.le_trans (Nat.add_le_add_left (by decide) B) hB, fun P1 σ1 ha iv1 kp1 => s_nil <| h P1 σ1 _ ha (iv1.up (Nat.add_le_add_left (by decide) B)) kp1 (fun x h1 h2 => lget_ne h2) g_here⟩
  ·have hl:¬ k.load = true:=fun z => Bool.false_ne_true (hl.symm.trans z)
   refine s_ite <| t_call F.iss <| xs_cons <| x_var g2 <| xs_nil ⟨.ins k a b c, rfl, truth <| ifC (fun hs => ?_) fun hs => ?_⟩
   ·have hs:k.store = true:=hs
    have e3:S.simp1 (fx j) (.ins k a b c) dead = S.store k a b c:=(if_neg q').trans ((if_neg hl).trans (if_pos hs))
    rw [e3] at h
    exact s_assign <| x_call F.store <| xs_cons <| x_var g1 <| xs_cons <| x_var g2 <| xs_nil ⟨P, S, B, k, a, b, c, rfl, mem_store k (mem_allKd k) hs, iv, Nat.le_trans b3 hB, fun P1 σ1 ha iv1 kp1 => s_nil <| h P1 σ1 _ ha (iv1.up b3) kp1 (fun x h1 h2 => lget_ne h2) g_here⟩
   ·have hs:¬ k.store = true:=fun z => Bool.false_ne_true (hs.symm.trans z)
    have e3:S.simp1 (fx j) (.ins k a b c) dead = (((S.result k a b c).2.better k a b c (S.result k a b c).1 dead).1, { ((S.result k a b c).2.better k a b c (S.result k a b c).1 dead).2 with regs:=upd ((S.result k a b c).2.better k a b c (S.result k a b c).1 dead).2.regs a (S.result k a b c).1 }):=(if_neg q').trans ((if_neg hl).trans (if_neg hs))
    rw [e3] at h
    exact calc_run F iv hB hS hr g1 g2 g3 g4 ed nd hb hj h
end
end Mini
end
section
namespace Mini
open PySem PySem.W PyProof.Rows
noncomputable def sp_simplified:Spec:=fun vs σ Q => ∃ r f rows fx, vs = [.ref r, .ref f] ∧ σ r = some (.list (rows.map Row.v)) ∧ FixD σ f fx ∧ rows.length ≤ 1000 ∧ (∀ x ∈ rows, x.Ok) ∧
 ∀ d σ', σ d = none → σ' d = some (.list ((simpL VS.empty fx 0 rows (deads rows).1).map orow)) → Ext σ σ' → Q (.ref d) σ'
section
variable {σ σ':Store} {P P':VP} {S:VS} {B:Nat} {Γ:GE}
noncomputable def simpBody:List Mini.S:=[.assign "row" (.sub (.var "rows") (.var "place")), .assign "better" (.var "row"), midS, .expr (.meth (.var "result") "append" [(.var "better")])]
theorem simp_turn (F:SimpFns Γ) {ρ:Loc} {row:Row} {rows:List Row} {r dd f res:Addr} {fx:Int → Bool} {bs xs:List V} {j:Nat} {dead:Bool} {K:Fl → Loc → Store → Prop} (iv:IsV σ P S B) (hB:B + 5 ≤ 50000) (hS:S.Ok) (hr:row.Ok)
  (g1:ρ.get "values" = some (.ref P.a)) (g2:ρ.get "rows" = some (.ref r)) (g3:ρ.get "dead" = some (.ref dd)) (g4:ρ.get "place" = some (.int j)) (g5:ρ.get "fixed" = some (.ref f)) (g6:ρ.get "result" = some (.ref res)) (ef:FixD σ f fx) (ed:σ dd = some (.list bs)) (nd:dd ∉ P.foot) (hb:bs.length ≤ 1000) (hj:bs[j]? = some (.bool dead))
  (er:σ r = some (.list (rows.map Row.v))) (hl:rows.length ≤ 1000) (hrow:rows[j]? = some row) (es:σ res = some (.list xs)) (nr:res ∉ P.foot) (hx:xs.length ≤ 1000)
  (h:∀ P' σ' ρ', P'.a = P.a → IsV σ' P' (S.simp1 (fx j) row dead).2 (B + 5) → KeepV P P' σ σ' → (∀ x:String, x ≠ "number" → x ≠ "better" → x ≠ "row" → ρ'.get (Str.ofString x) = ρ.get (Str.ofString x)) → K .next ρ' (σ'.set res (.list (xs ++ [orow (S.simp1 (fx j) row dead).1])))):wSs Γ simpBody ρ σ K:=by
 have gn:∀ {u v:V} (x:String), x ≠ "row" → x ≠ "better" → ((ρ.set "row" u).set "better" v).get (Str.ofString x) = ρ.get (Str.ofString x):=fun {u v} x h1 h2 => (lget_ne h2).trans (lget_ne h1)
 refine s_assign <| x_sub <| x_var g2 <| x_var g4 <| lst_at er (len_map hl (by decide)) (at_map hrow) <| s_assign <| x_var g_here <| mid_run F (r:=row) (dd:=dd) (f:=f) (fx:=fx) (bs:=bs) (dead:=dead) (j:=j) iv hB hS hr (g_th (g_th g1)) (g_th g_here) (g_th (g_th g3)) (g_th (g_th g4)) (g_th (g_th g5)) g_here ef ed nd hb hj fun P1 σ1 ρ1 ha iv1 kp1 hk hbt => ?_
 have e1:=kp1.keep _ _ es nr
 exact s_expr <| x_meth <| x_var ((hk _ (by decide) (by decide)).trans (g_th (g_th g6))) <| lst_kind e1 <| xs_cons <| x_var hbt <| xs_nil <| lst_append e1 (Nat.le_trans hx (by decide)) ⟨rfl, s_nil <| h P1 σ1 ρ1 ha iv1 kp1 fun x h1 h2 h3 => (hk x h1 h2).trans (gn x h3 h2)⟩
theorem Ext.free (x:Ext σ σ') {b:Addr} (h:σ' b = none):σ b = none:=by
 cases q:σ b with
 | none => rfl
 | some o => rw [x _ _ q] at h; exact nomatch h
theorem IsV.no (iv:IsV σ P S B) {b:Addr} (h:σ b = none):b ∉ P.all:=fun z => by have q:=iv.there b z; rw [h] at q; exact nomatch q
structure SimpI (σ0:Store) (P:VP) (res:Addr) (fx:Int → Bool) (rows:List Row) (ds:List Bool) (j:Nat) (σ':Store) (P':VP) (S:VS) (xs:List (Option Row)):Prop where
 a:P'.a = P.a
 iv:IsV σ' P' S (5 * j)
 ok:S.Ok
 held:Held σ0 σ' P'
 nr:res ∉ P'.all
 at_:σ' res = some (.list (xs.map orow))
 len:xs.length = j
 eq:xs ++ simpL S fx j (rows.drop j) (ds.drop j) = simpL VS.empty fx 0 rows ds
theorem ok_simplified (F:SimpFns Γ) (hV:Γ.fn "Values" = some sp_Values) (hd:Γ.fn "dead_flags" = some sp_dead) {vs:List V} {σ:Store} {Q:V → Store → Prop} (h:sp_simplified vs σ Q):wBody Γ ["rows", "fixed"] b_simplified vs σ Q:=by
 obtain ⟨r, f, rows, fx, rfl, er, ef, hl, hok, hq⟩:=h
 refine body_intro rfl ?_
 show wSs Γ (.assign "values" (.call "Values" []) :: .assign "dead" (.call "dead_flags" [(.var "rows")]) :: .assign "result" (.list []) :: .for_ "place" (.range [(.bcall .len [(.var "rows")])]) simpBody :: [.ret (.var "result")]) _ σ _
 generalize hρ:((Loc.set [] "rows" (V.ref r)).set "fixed" (.ref f)) = ρ
 have g1:ρ.get "rows" = some (.ref r):=hρ ▸ g_th g_here
 have g2:ρ.get "fixed" = some (.ref f):=hρ ▸ g_here
 refine s_assign <| x_call hV <| xs_nil ⟨rfl, fun P σ1 iv1 x1 fr => s_assign <| x_call hd <| xs_cons <| x_var (g_th g1) <| xs_nil ⟨r, rows, rfl, x1 _ _ er, hl, hok, fun d σ2 hd0 ed ko => s_assign <| x_list <| xs_nil fun res hres => ?_⟩⟩
 have iv2:IsV σ2 P VS.empty 0:=iv1.frame fun y hy => ko y (fun z => iv1.no hd0 (z ▸ hy)) (iv1.there y hy)
 have x2:Ext σ1 σ2:=fun b o e => (ko b (fun z => by rw [z, hd0] at e; exact nomatch e) (by rw [e]; rfl)).trans e
 have rP:=iv2.no hres
 show wSs Γ _ (((ρ.set "values" (V.ref P.a)).set "dead" (.ref d)).set "result" (.ref res)) (σ2.set res (.list [])) _
 generalize hρ3:(((ρ.set "values" (V.ref P.a)).set "dead" (.ref d)).set "result" (.ref res)) = ρ3
 have l1:ρ3.get "values" = some (.ref P.a):=hρ3 ▸ g_th (g_th g_here)
 have l2:ρ3.get "dead" = some (.ref d):=hρ3 ▸ g_th g_here
 have l3:ρ3.get "result" = some (.ref res):=hρ3 ▸ g_here
 have l4:ρ3.get "rows" = some (.ref r):=hρ3 ▸ g_th (g_th (g_th g1))
 have l5:ρ3.get "fixed" = some (.ref f):=hρ3 ▸ g_th (g_th (g_th g2))
 obtain ⟨σ0, s0, s0d⟩:∃ σ0:Store, (∀ b, b ≠ d → σ0 b = σ b) ∧ σ0 d = σ2 d:=⟨fun b => if b = d then σ2 d else σ b, fun b n => if_neg n, if_pos rfl⟩
 have z1:∀ b o, σ b = some o → σ0 b = some o:=fun b o e => (s0 b fun z => by rw [z] at e; rw [x1 _ _ e] at hd0; exact nomatch hd0).trans e
 have z2:σ0 d = some (.list ((deads rows).1.map V.bool)):=s0d.trans ed
 have cas:∀ b o, σ0 b = some o → b = d ∨ σ b = some o:=fun b o e => (Decidable.em (b = d)).imp_right fun n => (s0 b n).symm.trans e
 have z3:Ext σ0 σ2:=fun b o e => (cas b o e).elim (fun z => by rw [z] at e ⊢; exact s0d.symm.trans e) fun e => x2 _ _ (x1 _ _ e)
 have z4:σ0 res = none:=z3.free hres
 have h0:Held σ0 (σ2.set res (.list [])) P:=Held.set (fun b o e => ⟨z3 b o e, fun z => (cas b o e).elim (fun w => iv1.no hd0 (w ▸ ft_all z)) fun w => by rw [fr b (ft_all z)] at w; exact nomatch w⟩) z4
 refine s_for <| i_range <| xs_cons <| x_bcall <| xs_cons <| x_var l4 <| xs_nil <| lst_len (h0 r _ (z1 _ _ er)).1 (len_map hl (by decide)) <| xs_nil <| r_nat (len_map hl (by decide)) ?_
 rw [List.length_map]
 refine for_range (fun j ρ σ' => ∃ P' S xs, SimpI σ0 P res fx rows (deads rows).1 j σ' P' S xs ∧ ρ.get "values" = some (.ref P.a) ∧ ρ.get "dead" = some (.ref d) ∧ ρ.get "result" = some (.ref res) ∧ ρ.get "rows" = some (.ref r) ∧ ρ.get "fixed" = some (.ref f)) ?_ ?_ ?_
 ·exact ⟨P, VS.empty, [], ⟨rfl, iv2.frame fun y hy => set_ne fun z => rP (z ▸ hy), (fun n x q => nomatch q), h0, rP, set_eq, rfl, rfl⟩, l1, l2, l3, l4, l5⟩
 ·rintro j ρ' σ' K' hj ⟨P', S, xs, I, i1, i2, i3, i4, i5⟩ q1 q2 q3
  have lj:j < (deads rows).1.length:=Nat.lt_of_lt_of_eq hj (deads_len rows).symm
  have nrf:res ∉ P'.foot:=fun z => I.nr (ft_all z)
  obtain ⟨e1, e2⟩:=I.held d _ z2
  have ef':FixD σ' f fx:=let ⟨eff, t1, t2⟩:=ef; ⟨eff, (I.held f _ (z1 _ _ t1)).1, t2⟩
  refine simp_turn F (row:=rows[j]) (rows:=rows) (r:=r) (dd:=d) (f:=f) (res:=res) (fx:=fx) (bs:=(deads rows).1.map V.bool) (xs:=xs.map orow) (j:=j) (dead:=(deads rows).1[j]) I.iv (Nat.le_trans (Nat.mul_le_mul_left 5 (Nat.le_trans (Nat.succ_le_of_lt hj) hl)) (by decide)) I.ok (hok _ (List.getElem_mem hj)) (I.a ▸ g_th i1) (g_th i4) (g_th i2) g_here (g_th i5) (g_th i3) ef' e1 e2 (len_map (Nat.le_of_eq (deads_len rows)) hl) (at_map (List.getElem?_eq_getElem lj)) (I.held r _ (z1 _ _ er)).1 hl (List.getElem?_eq_getElem hj) I.at_ nrf (len_map (Nat.le_of_eq I.len) (Nat.le_trans (Nat.le_of_lt hj) hl)) fun P2 σ2' ρ2 ha2 iv2 kp2 hk => ?_
  have g:∀ x:String, x ≠ "number" → x ≠ "better" → x ≠ "row" → x ≠ "place" → ρ2.get (Str.ofString x) = ρ'.get (Str.ofString x):=fun x a1 a2 a3 a4 => (hk x a1 a2 a3).trans (lget_ne a4)
  have nr2:res ∉ P2.foot:=kp2.foot res (by rw [I.at_]; rfl) nrf
  have nr3:res ∉ P2.all:=fun z => (List.mem_cons.mp (show res ∈ P2.a :: P2.foot from z)).elim (fun q => I.nr (by rw [q, ha2]; exact .head _)) nr2
  refine q2 ρ2 _ ⟨P2, _, xs ++ [(S.simp1 (fx j) rows[j] (deads rows).1[j]).1], ⟨ha2.trans I.a, iv2.frame fun y hy => set_ne fun z => nr3 (z ▸ hy), I.ok.simp1 _ _ _ (hok _ (List.getElem_mem hj)), (I.held.keep kp2).set z4, nr3, ?_, ?_, ?_⟩, (g _ (by decide) (by decide) (by decide) (by decide)).trans i1, (g _ (by decide) (by decide) (by decide) (by decide)).trans i2, (g _ (by decide) (by decide) (by decide) (by decide)).trans i3, (g _ (by decide) (by decide) (by decide) (by decide)).trans i4, (g _ (by decide) (by decide) (by decide) (by decide)).trans i5⟩
  ·rw [List.map_append]; exact set_eq
  ·rw [List.length_append, I.len]; rfl
  ·rw [← I.eq, List.drop_eq_getElem_cons hj, List.drop_eq_getElem_cons lj, List.append_assoc]; rfl
 ·rintro ρ' σ' ⟨P', S, xs, I, i1, i2, i3, i4, i5⟩
  have:simpL S fx rows.length (rows.drop rows.length) ((deads rows).1.drop rows.length) = []:=by rw [List.drop_length]; rfl
  refine s_ret <| x_var i3 <| hq res σ' (Ext.free z1 z4) ?_ fun b o e => (I.held b o (z1 _ _ e)).1
  rw [← I.eq, this, List.append_nil]; exact I.at_
end
end Mini
end
section
namespace Mini
open PySem PySem.W PyProof.Rows
noncomputable abbrev Pend:=Int × Int → Option Int
noncomputable def keepP (pend:Pend) (p:Int) (k:Kd) (c:Int):Pend:=fun x => if x.1 = p ∧ apartB x.2 4 c k.bytes = true then pend x else none
noncomputable def cov1 (S:VS) (pend:Pend) (fx:Bool) (pos:Int) (r:Row):VS × Pend × Option Int:=match r with
 | .trap .. => (S, fun _ => none, none)
 | .ins k a b c => if fx = true then (S.fixed (.ins k a b c), fun _ => none, none)
  else if k.mem = true then
   if k = .str then ((S.of b).2, upd pend ((S.of b).1, c) pos, pend ((S.of b).1, c))
   else if k.load = true then ({ (S.of b).2.fresh with regs:=upd (S.of b).2.regs a ((S.of b).2.count + 1) }, keepP pend (S.of b).1 k c, none)
   else ((S.of b).2, pend, none)
  else ({ (S.result k a b c).2 with regs:=upd (S.result k a b c).2.regs a (S.result k a b c).1 }, pend, none)
noncomputable def covL (fx:Int → Bool):VS → Pend → Nat → List (Option Row) → List Int
 | _, _, _, [] => []
 | S, pend, i, none :: rs => covL fx S pend (i + 1) rs
 | S, pend, i, some r :: rs => (cov1 S pend (fx i) i r).2.2.toList ++ covL fx (cov1 S pend (fx i) i r).1 (cov1 S pend (fx i) i r).2.1 (i + 1) rs
structure CovI (σ0 σ:Store) (P:VP) (S:VS) (pend:Pend) (B:Nat) (pd fd:Addr) (xs:List Int):Prop where
 iv:IsV σ P S B
 ok:S.Ok
 held:Held σ0 σ P
 pdD:∃ es, σ pd = some (.dict es) ∧ MapK kW pend B es
 pdP:pd ∉ P.all
 pd0:σ0 pd = none
 fdD:σ fd = some (.list (xs.map V.int))
 fdP:fd ∉ P.all
 fd0:σ0 fd = none
 ne:pd ≠ fd
theorem VP.all_of {P:VP} {b:Addr} (h:b ∉ P.all):b ≠ P.a ∧ b ∉ P.foot:=⟨fun z => h (by rw [z]; exact .head _), fun z => h (ft_all z)⟩
theorem VP.of_all {P:VP} {b:Addr} (h:b ≠ P.a) (h':b ∉ P.foot):b ∉ P.all:=fun z => (List.mem_cons.mp (show b ∈ P.a :: P.foot from z)).elim h h'
theorem cl_nil {σ:Store} {β:Type} {guard:Store → Prop} {tests:Loc → Store → (Bool → Store → Prop) → Prop} {elt:β → Loc → Store → (β → Store → Prop) → Prop} {x:Str} {ρ:Loc} {acc:β} {Q:β → Store → Prop} (g:guard σ) (h:Q acc σ):compLoop guard tests elt x ρ [] acc σ Q:=⟨g, h⟩
theorem cl_cons {σ:Store} {β:Type} {guard:Store → Prop} {tests:Loc → Store → (Bool → Store → Prop) → Prop} {elt:β → Loc → Store → (β → Store → Prop) → Prop} {x:Str} {ρ:Loc} {acc:β} {v:V} {vs:List V} {Q:β → Store → Prop} (g:guard σ)
  (h:tests (ρ.set x v) σ fun b σ₁ => if b = true then elt acc (ρ.set x v) σ₁ fun acc' σ₂ => compLoop guard tests elt x ρ vs acc' σ₂ Q else compLoop guard tests elt x ρ vs acc σ₁ Q):compLoop guard tests elt x ρ (v :: vs) acc σ Q:=⟨g, h⟩
theorem ifs_one {Γ:GE} {σ:Store} {x:X} {ρ:Loc} {R:Bool → Store → Prop} (h:wT Γ x ρ σ R):wIfs Γ [x] ρ σ R:=h
theorem x_dcomp {Γ:GE} {σ:Store} {k w it:X} {x:Str} {ifs:List X} {ρ:Loc} {Q:V → Store → Prop} (h:wIter Γ it ρ σ fun items guard σ₁ unf => items.length ≤ 1000 ∧
      compLoop guard (fun ρ' σ' Q' => wIfs Γ ifs ρ' σ' Q') (fun (acc:List (Key × V)) ρ' σ' Q' => wX Γ k ρ' σ' fun kv σ'' => wX Γ w ρ' σ'' fun v σ₃ =>
          ∃ key, kv.key? = some key ∧ (∀ e ∈ acc, e.1.isTp = key.isTp) ∧ Q' (aset acc key v) σ₃) x ρ items [] σ₁ fun es σ₂ => newObj (unf σ₂) (.dict es) Q):wX Γ (.dcomp k w x it ifs) ρ σ Q:=h
section
variable {σ0 σ σ':Store} {P P':VP} {S S':VS} {pend pend':Pend} {B B':Nat} {pd fd:Addr} {xs:List Int} {Γ:GE}
theorem CovI.keep (h:CovI σ0 σ P S pend B pd fd xs) (iv:IsV σ' P' S' B') (ha:P'.a = P.a) (kp:KeepV P P' σ σ') (hB:B ≤ B') (hS:S'.Ok):CovI σ0 σ' P' S' pend B' pd fd xs:=by
 obtain ⟨es, e, m⟩:=h.pdD
 obtain ⟨n1, n2⟩:=VP.all_of h.pdP
 obtain ⟨n3, n4⟩:=VP.all_of h.fdP
 exact ⟨iv, hS, h.held.keep kp, ⟨es, kp.keep _ _ e n2, m.up hB⟩, VP.of_all (by rw [ha]; exact n1) (kp.foot _ (by rw [e]; rfl) n2), h.pd0, kp.keep _ _ h.fdD n4, VP.of_all (by rw [ha]; exact n3) (kp.foot _ (by rw [h.fdD]; rfl) n4), h.fd0, h.ne⟩
theorem CovI.newPend (h:CovI σ0 σ P S pend B pd fd xs) {b:Addr} {es:List (Key × V)} (hb:σ b = none) (m:MapK kW pend' B es):CovI σ0 (σ.set b (.dict es)) P S pend' B b fd xs:=by
 have nP:=h.iv.no hb
 have n0:σ0 b = none:=Ext.free (fun x o e => (h.held x o e).1) hb
 have nf:fd ≠ b:=ne_new h.fdD hb
 exact ⟨h.iv.frame fun y hy => set_ne (fun z => nP (z ▸ hy)), h.ok, h.held.set n0, ⟨es, set_eq, m⟩, nP, n0, (set_ne nf).trans h.fdD, h.fdP, h.fd0, nf.symm⟩
theorem CovI.setPend (h:CovI σ0 σ P S pend B pd fd xs) {es:List (Key × V)} (m:MapK kW pend' B es):CovI σ0 (σ.set pd (.dict es)) P S pend' B pd fd xs :=
 ⟨h.iv.frame fun y hy => set_ne (fun z => h.pdP (z ▸ hy)), h.ok, h.held.set h.pd0, ⟨es, set_eq, m⟩, h.pdP, h.pd0, (set_ne h.ne.symm).trans h.fdD, h.fdP, h.fd0, h.ne⟩
theorem CovI.app (h:CovI σ0 σ P S pend B pd fd xs) (x:Int):CovI σ0 (σ.set fd (.list ((xs ++ [x]).map V.int))) P S pend B pd fd (xs ++ [x]) :=
 let ⟨es, e, m⟩:=h.pdD
 ⟨h.iv.frame fun y hy => set_ne (fun z => h.fdP (z ▸ hy)), h.ok, h.held.set h.fd0, ⟨es, (set_ne h.ne).trans e, m⟩, h.pdP, h.pd0, set_eq, h.fdP, h.fd0, h.ne⟩
theorem CovI.up (h:CovI σ0 σ P S pend B pd fd xs) (l:B ≤ B'):CovI σ0 σ P S pend B' pd fd xs:=h.keep (h.iv.up l) rfl (KeepV.refl _ _) l h.ok
noncomputable def keepG (pend:Pend) (p:Int) (k:Kd) (c:Int) (pre:List (Key × V)):Pend:=fun x => if pre.any (fun e => decide (e.1 = kW x)) = true ∧ x.1 = p ∧ apartB x.2 4 c k.bytes = true then pend x else none
theorem comp_keep (hm:Γ.fn "may_meet" = some sp_may_meet) {τ:Store} {es:List (Key × V)} {p:Int} {k:Kd} {ra rb c:Int} {ρ:Loc} {Q:List (Key × V) → Store → Prop} (t:τ pd = some (.fdict es)) (mm:MapK kW pend B es)
  (g1:ρ.get "row" = some (Row.v (.ins k ra rb c))) (g2:ρ.get "base" = some (.int p)) (g3:ρ.get "pending" = some (.ref pd)) (h:∀ acc, MapK kW (keepG pend p k c es) es.length acc → Q acc τ):∀ (post pre acc:List (Key × V)), es = pre ++ post → MapK kW (keepG pend p k c pre) pre.length acc →
  compLoop (fun σ' => σ' pd = some (.fdict es)) (fun ρ' σ' Q' => wIfs Γ [(.not_ (.call "may_meet" [(.var "key"), (.var "row"), (.var "base")]))] ρ' σ' Q') (fun (acc:List (Key × V)) ρ' σ' Q' => wX Γ (.var "key") ρ' σ' fun kv σ'' => wX Γ (.sub (.var "pending") (.var "key")) ρ' σ'' fun v σ₃ =>
   ∃ key, kv.key? = some key ∧ (∀ e ∈ acc, e.1.isTp = key.isTp) ∧ Q' (aset acc key v) σ₃) "key" ρ (post.map fun e => e.1.v) acc τ Q:=by
 intro post
 induction post with
 | nil =>
  intro pre acc he ma
  rw [List.append_nil] at he; subst he
  exact cl_nil t (h acc ma)
 | cons e post ih =>
  intro pre acc he ma
  obtain ⟨x, v', h1, hv⟩:=mm.has (show e ∈ es by rw [he]; exact List.mem_append_right _ (.head _))
  have he':es = (pre ++ [e]) ++ post:=by rw [he, List.append_assoc]; rfl
  have len:(pre ++ [e]).length = pre.length + 1:=List.length_append
  have oth:∀ {y:Int × Int}, x ≠ y → (pre ++ [e]).any (fun e => decide (e.1 = kW y)) = pre.any (fun e => decide (e.1 = kW y)):=fun hy => by
   rw [List.any_append, List.any_cons, List.any_nil, Bool.or_false, h1, decide_eq_false fun z => hy (kW_inj _ _ z), Bool.or_false]
  have self:(pre ++ [e]).any (fun e => decide (e.1 = kW x)) = true:=by rw [List.any_append, List.any_cons, h1, decide_eq_true rfl, Bool.true_or, Bool.or_true]
  rw [List.map_cons, h1]
  refine cl_cons t <| ifs_one <| t_not <| t_call hm <| xs_cons <| x_var g_here <| xs_cons <| x_var (g_th g1) <| xs_cons <| x_var (g_th g2) <| xs_nil ⟨x.1, x.2, k, ra, rb, c, p, rfl, truth ?_⟩
  by_cases hc:x.1 = p ∧ apartB x.2 4 c k.bytes = true
  ·refine ifT (by rw [hc.2, decide_eq_false (fun z => z hc.1)]; rfl) <| x_var g_here <| x_sub <| x_var (g_th g3) <| x_var g_here <| fd_get t mm (k:=x) rfl kW_tp hv ⟨kW x, rfl, fun en hen => by obtain ⟨y, v, e1, _⟩:=ma.shape en hen; rw [e1]; exact kW_tp _ _, ih (pre ++ [e]) _ he' ?_⟩
   rw [len]
   refine (ma.set kW_inj x v').congr fun y => ?_
   unfold keepG upd
   by_cases hy:x = y
   ·subst hy; rw [if_pos rfl, if_pos ⟨self, hc⟩, hv]
   ·rw [oth hy, if_neg hy]
  ·refine ifF ?_ (ih (pre ++ [e]) acc he' ?_)
   ·by_cases hp:x.1 = p
    ·rw [Bool.eq_false_iff.mpr fun z => hc ⟨hp, z⟩, Bool.not_false, Bool.or_true]; rfl
    ·rw [decide_eq_true hp, Bool.true_or]; rfl
   ·rw [len]
    refine (ma.up (Nat.le_succ _)).congr fun y => ?_
    unfold keepG
    by_cases hy:x = y
    ·subst hy; rw [if_neg (fun z => hc z.2), if_neg (fun z => hc z.2)]
    ·rw [oth hy]
end
end Mini
end
section
namespace Mini
open PySem PySem.W PyProof.Rows
structure CovFns (Γ:GE):Prop where
 ctl:Γ.fn "is_control" = some (sp_row fun r => .bool r.ctl)
 fixed:Γ.fn "fixed_row" = some sp_fixed
 isl:Γ.fn "is_load" = some (sp_row fun r => .bool r.load)
 ism:Γ.fn "is_memory" = some (sp_row fun r => .bool r.mem)
 meet:Γ.fn "may_meet" = some sp_may_meet
 result:Γ.fn "result_number" = some sp_result
 of:Γ.meth "of" = some sp_of
 fresh:Γ.meth "fresh" = some sp_fresh
section
variable {σ0 σ σ':Store} {P P':VP} {S S':VS} {pend pend':Pend} {B B':Nat} {pd fd:Addr} {xs:List Int} {Γ:GE}
noncomputable def KeepL (ρ ρ':Loc):Prop:=∀ x:String, x ≠ "row" → x ≠ "base" → x ≠ "place" → x ≠ "pending" → ρ'.get (Str.ofString x) = ρ.get (Str.ofString x)
noncomputable def covFix:List Mini.S:=[.assign "pending" (.dict [] []), .expr (.call "fixed_row" [(.var "values"), (.var "row")])]
theorem cov_fix (F:CovFns Γ) {ρ:Loc} {r:Row} {K:Fl → Loc → Store → Prop} (I:CovI σ0 σ P S pend B pd fd xs) (hB:B + 5 ≤ 50000) (g1:ρ.get "values" = some (.ref P.a)) (g2:ρ.get "row" = some r.v)
  (h:∀ P' σ' ρ' pd', P'.a = P.a → CovI σ0 σ' P' (S.fixed r) (fun _ => none) (B + 5) pd' fd xs → KeepL ρ ρ' → ρ'.get "pending" = some (.ref pd') → K .next ρ' σ'):wSs Γ covFix ρ σ K:=by
 refine s_assign <| x_empty fun b hb => ?_
 have I1:=I.newPend hb (MapK.nil (B:=B))
 exact s_expr <| x_call F.fixed <| xs_cons <| x_var (g_th g1) <| xs_cons <| x_var (g_th g2) <| xs_nil ⟨P, S, B, r, rfl, I1.iv, Nat.le_trans (Nat.add_le_add_left (by decide) B) hB, fun P1 σ1 ha iv1 kp1 => ⟨rfl, s_nil <| h P1 σ1 _ b ha ((I1.keep iv1 ha kp1 (Nat.le_succ B) (I.ok.same (fixed_consts ..))).up (Nat.add_le_add_left (by decide) B)) (fun x h1 h2 h3 h4 => lget_ne h4) g_here⟩⟩
noncomputable def covCalc:List Mini.S:=[.setSub (.attr (.var "values") "regs") (.sub (.var "row") (.lit (.int (1)))) (.call "result_number" [(.var "values"), (.var "row")])]
theorem cov_calc (F:CovFns Γ) {ρ:Loc} {k:Kd} {a b c:Int} {K:Fl → Loc → Store → Prop} (I:CovI σ0 σ P S pend B pd fd xs) (hB:B + 5 ≤ 50000) (hr:(Row.ins k a b c).Ok) (g1:ρ.get "values" = some (.ref P.a)) (g2:ρ.get "row" = some (Row.v (.ins k a b c))) (g3:ρ.get "pending" = some (.ref pd))
  (h:∀ P' σ' ρ' pd', P'.a = P.a → CovI σ0 σ' P' { (S.result k a b c).2 with regs:=upd (S.result k a b c).2.regs a (S.result k a b c).1 } pend (B + 5) pd' fd xs → KeepL ρ ρ' → ρ'.get "pending" = some (.ref pd') → K .next ρ' σ'):wSs Γ covCalc ρ σ K:=by
 refine s_sub <| x_call F.result <| xs_cons <| x_var g1 <| xs_cons <| x_var g2 <| xs_nil ⟨P, S, B, k, a, b, c, rfl, I.ok, hr.movh, I.iv, Nat.le_trans (Nat.add_le_add_left (by decide) B) hB, fun P1 σ1 ha iv1 kp1 => ?_⟩
 obtain ⟨es, e, m⟩:=iv1.rg
 exact x_at g1 iv1 ha (v:=.ref P1.rg) rfl <| v1 (a:=.str k.nm) (b:=.int a) (c:=.int b) (d:=.int c) g2 <| set_dict e m (le_dict (Nat.le_of_succ_le hB)) (k:=a) rfl kI_tp <| s_nil <| h P1 _ ρ pd ha (I.keep ((iv1.up (Nat.le_succ (B + 3))).set_rg (m.set kI_inj a (S.result k a b c).1) |>.up (Nat.le_succ (B + 4))) ha (kp1.trans (KeepV.set rg_ft)) (Nat.le_add_right B 5) (I.ok.result k a b c hr.movh)) (fun x _ _ _ _ => rfl) g3
noncomputable def covStr:List Mini.S:=[.ite (.cmp .In (.var "place") (.var "pending")) [.expr (.meth (.var "found") "append" [(.sub (.var "pending") (.var "place"))])] [], .setSub (.var "pending") (.var "place") (.var "at")]
theorem cov_str {ρ:Loc} {p c pos:Int} {K:Fl → Loc → Store → Prop} (I:CovI σ0 σ P S pend B pd fd xs) (hB:B + 5 ≤ 50000) (hx:xs.length ≤ 1000) (g1:ρ.get "place" = some (.tup [.int p, .int c])) (g2:ρ.get "pending" = some (.ref pd)) (g3:ρ.get "found" = some (.ref fd)) (g4:ρ.get "at" = some (.int pos))
  (h:∀ σ', CovI σ0 σ' P S (upd pend (p, c) pos) (B + 1) pd fd (xs ++ (pend (p, c)).toList) → K .next ρ σ'):wSs Γ covStr ρ σ K:=by
 obtain ⟨es, e, m⟩:=I.pdD
 have b1:B ≤ 100000:=le_dict (Nat.le_trans (Nat.add_le_add_left (by decide) B) hB)
 refine s_if <| t_cmp <| x_var g1 <| x_var g2 <| c_in <| in_dict e m (k:=(p, c)) rfl kW_tp ?_
 cases hp:pend (p, c) with
 | none =>
  have hn:xs ++ (none:Option Int).toList = xs:=List.append_nil xs
  rw [hp, hn] at h
  exact ifF rfl <| s_sub <| x_var g4 <| x_var g2 <| x_var g1 <| set_dict e m b1 (k:=(p, c)) rfl kW_tp <| s_nil <| h _ ((I.up (Nat.le_succ B)).setPend (m.set kW_inj (p, c) pos))
 | some i =>
  rw [hp] at h
  have I1:=I.app i
  obtain ⟨es1, x1, m1⟩:=I1.pdD
  have e2:xs.map V.int ++ [V.int i] = (xs ++ [i]).map V.int:=by rw [List.map_append]; rfl
  refine ifT rfl <| s_expr <| x_meth <| x_var g3 <| lst_kind I.fdD <| xs_cons <| x_sub <| x_var g2 <| x_var g1 <| get_dict e m (k:=(p, c)) rfl kW_tp hp <| xs_nil <| lst_append I.fdD (len_map hx (by decide)) ⟨rfl, ?_⟩
  rw [e2]
  exact s_nil <| s_sub <| x_var g4 <| x_var g2 <| x_var g1 <| set_dict x1 m1 b1 (k:=(p, c)) rfl kW_tp <| s_nil <| h _ ((I1.up (Nat.le_succ B)).setPend (m1.set kW_inj (p, c) pos))
noncomputable def covLoad:List Mini.S:=[.assign "pending" (.dcomp (.var "key") (.sub (.var "pending") (.var "key")) "key" (.var "pending") [(.not_ (.call "may_meet" [(.var "key"), (.var "row"), (.var "base")]))]), .setSub (.attr (.var "values") "regs") (.sub (.var "row") (.lit (.int (1)))) (.meth (.var "values") "fresh" [])]
theorem cov_load (F:CovFns Γ) {ρ:Loc} {k:Kd} {p a b c:Int} {K:Fl → Loc → Store → Prop} (I:CovI σ0 σ P S pend B pd fd xs) (hB:B + 5 ≤ 900) (g0:ρ.get "values" = some (.ref P.a)) (g1:ρ.get "row" = some (Row.v (.ins k a b c))) (g2:ρ.get "pending" = some (.ref pd)) (g3:ρ.get "base" = some (.int p))
  (h:∀ P' σ' ρ' pd', P'.a = P.a → CovI σ0 σ' P' { S.fresh with regs:=upd S.regs a (S.count + 1) } (keepP pend p k c) (B + 1) pd' fd xs → KeepL ρ ρ' → ρ'.get "pending" = some (.ref pd') → K .next ρ' σ'):wSs Γ covLoad ρ σ K:=by
 obtain ⟨es, e, m⟩:=I.pdD
 have b1:B ≤ 900:=Nat.le_trans (Nat.le_add_right B 5) hB
 have le:es.length ≤ 900:=Nat.le_trans m.len b1
 refine s_assign <| x_dcomp <| i_var g2 <| it_dict e (Nat.le_trans le (by decide)) (.inr fun en he => by obtain ⟨y, v, e1, _⟩:=m.shape en he; rw [e1]; rfl) ⟨len_map le (by decide), ?_⟩
 refine comp_keep (Γ:=Γ) F.meet (τ:=σ.set pd (.fdict es)) (es:=es) (p:=p) (k:=k) (ra:=a) (rb:=b) (c:=c) set_eq m g1 g3 g2 (fun acc ma => ?_) es [] [] rfl ⟨Nat.le_refl _, (fun e he => nomatch he), fun x => by unfold keepG; rw [if_neg fun z => Bool.false_ne_true z.1]; rfl⟩
 show newObj ((σ.set pd (.fdict es)).set pd (.dict es)) (.dict acc) _
 rw [set_set, set_same e]
 intro nb hnb
 have ma':MapK kW (keepP pend p k c) B acc:=by
  refine (ma.up m.len).congr fun x => ?_
  unfold keepG keepP
  rw [any_aget, m.at_ x, Option.isSome_map]
  cases hw:pend x with
  | none => rw [ite_self, ite_self]
  | some v =>
   by_cases z:x.1 = p ∧ apartB x.2 4 c k.bytes = true
   ·rw [if_pos z, if_pos ⟨rfl, z⟩]
   ·rw [if_neg z, if_neg fun y => z y.2]
 have I1:=I.newPend hnb ma'
 refine s_sub <| x_own (g_th g0) I1.iv rfl F.fresh rfl <| xs_nil ⟨P, S, B, rfl, I1.iv, Nat.le_trans b1 (by decide), fun P1 σ1 ha iv1 kp1 => ?_⟩
 obtain ⟨es2, e2, m2⟩:=iv1.rg
 exact x_at (g_th g0) iv1 ha (v:=.ref P1.rg) rfl <| v1 (a:=.str k.nm) (b:=.int a) (c:=.int b) (d:=.int c) (g_th g1) <| set_dict e2 m2 (Nat.le_trans b1 (by decide)) (k:=a) rfl kI_tp <| s_nil <| h P1 _ _ nb ha (I1.keep ((iv1.up (Nat.le_succ B)).set_rg (m2.set kI_inj a (S.count + 1))) ha (kp1.trans (KeepV.set rg_ft)) (Nat.le_succ B) I.ok) (fun x h1 h2 h3 h4 => lget_ne h4) g_here
noncomputable def covMem:List Mini.S:=[.assign "base" (.meth (.var "values") "of" [(.sub (.var "row") (.lit (.int (2))))]), .assign "place" (.tup [(.var "base"), (.sub (.var "row") (.lit (.int (3))))]), .ite (.cmp .Eq (.sub (.var "row") (.lit (.int (0)))) (.lit (.str "STR"))) covStr [.ite (.call "is_load" [(.var "row")]) covLoad []]]
theorem cov_mem (F:CovFns Γ) {ρ:Loc} {k:Kd} {a b c pos:Int} {K:Fl → Loc → Store → Prop} (I:CovI σ0 σ P S pend B pd fd xs) (hB:B + 6 ≤ 900) (hx:xs.length ≤ 1000) (hk:k.mem = true) (g1:ρ.get "values" = some (.ref P.a)) (g2:ρ.get "row" = some (Row.v (.ins k a b c))) (g3:ρ.get "pending" = some (.ref pd)) (g4:ρ.get "found" = some (.ref fd)) (g5:ρ.get "at" = some (.int pos))
  (h:∀ P' σ' ρ' pd', P'.a = P.a → CovI σ0 σ' P' (cov1 S pend false pos (.ins k a b c)).1 (cov1 S pend false pos (.ins k a b c)).2.1 (B + 5) pd' fd (xs ++ (cov1 S pend false pos (.ins k a b c)).2.2.toList) → KeepL ρ ρ' → ρ'.get "pending" = some (.ref pd') → K .next ρ' σ'):wSs Γ covMem ρ σ K:=by
 have g2:ρ.get "row" = some (.tup [.str k.nm, .int a, .int b, .int c]):=g2
 refine s_assign <| x_own g1 I.iv rfl F.of rfl <| xs_cons <| v2 g2 <| xs_nil ⟨P, S, B, b, rfl, I.iv, Nat.le_trans (Nat.le_trans (Nat.add_le_add_left (by decide) B) hB) (by decide), fun P1 σ1 ha iv1 kp1 => s_assign <| x_tup <| xs_cons <| x_var g_here <| xs_cons <| v3 (g_th g2) <| xs_nil ?_⟩
 have I1:=I.keep iv1 ha kp1 (Nat.le_succ B) (I.ok.of b)
 show wSs Γ _ ((ρ.set "base" (V.int (S.of b).1)).set "place" (.tup [.int (S.of b).1, .int c])) σ1 _
 generalize hρ1:(ρ.set "base" (V.int (S.of b).1)).set "place" (.tup [.int (S.of b).1, .int c]) = ρ1
 have l1:ρ1.get "values" = some (.ref P1.a):=by rw [ha]; exact hρ1 ▸ g_th (g_th g1)
 have l2:ρ1.get "row" = some (.tup [.str k.nm, .int a, .int b, .int c]):=hρ1 ▸ g_th (g_th g2)
 have l3:ρ1.get "pending" = some (.ref pd):=hρ1 ▸ g_th (g_th g3)
 have l4:ρ1.get "found" = some (.ref fd):=hρ1 ▸ g_th (g_th g4)
 have l5:ρ1.get "at" = some (.int pos):=hρ1 ▸ g_th (g_th g5)
 have l6:ρ1.get "place" = some (.tup [.int (S.of b).1, .int c]):=hρ1 ▸ g_here
 have l7:ρ1.get "base" = some (.int (S.of b).1):=hρ1 ▸ g_th g_here
 have kk:KeepL ρ ρ1:=fun x h1 h2 h3 h4 => hρ1 ▸ (lget_ne h3).trans (lget_ne h2)
 have b6:B + 1 + 5 ≤ 900:=hB
 have out:∀ {S2:VS} {pe:Pend} {f:Option Int}, cov1 S pend false pos (.ins k a b c) = (S2, pe, f) → ∀ {P' σ' ρ' pd'}, P'.a = P.a → CovI σ0 σ' P' S2 pe (B + 5) pd' fd (xs ++ f.toList) → KeepL ρ1 ρ' → ρ'.get "pending" = some (.ref pd') → K .next ρ' σ':=fun {S2 pe f} e {P' σ' ρ' pd'} q1 q2 q3 => by
  rw [e] at h; exact h P' σ' ρ' pd' q1 q2 fun x h1 h2 h3 h4 => (q3 x h1 h2 h3 h4).trans (kk x h1 h2 h3 h4)
 have refl:KeepL ρ1 ρ1:=fun x _ _ _ _ => rfl
 refine s_ite <| t_cmp <| v0 l2 <| x_lit <| c_eqs ?_
 have hm:cov1 S pend false pos (.ins k a b c) = if k = .str then ((S.of b).2, upd pend ((S.of b).1, c) pos, pend ((S.of b).1, c)) else if k.load = true then ({ (S.of b).2.fresh with regs:=upd (S.of b).2.regs a ((S.of b).2.count + 1) }, keepP pend (S.of b).1 k c, none) else ((S.of b).2, pend, none):=by unfold cov1; dsimp only; rw [if_neg Bool.false_ne_true, if_pos hk]
 by_cases hs:k = .str
 ·refine ifT (decide_eq_true (by rw [hs]; rfl)) <| cov_str I1 (Nat.le_trans b6 (by decide)) hx l6 l3 l4 l5 fun σ2 I2 => ?_
  exact out (hm.trans (if_pos hs)) ha (I2.up (Nat.add_le_add_left (by decide:2 ≤ 5) B)) refl l3
 ·have hm:=hm.trans (if_neg hs)
  refine ifF (decide_eq_false fun z => hs (nm_inj (k2:=.str) z)) <| s_if <| t_call F.isl <| xs_cons <| x_var l2 <| xs_nil ⟨.ins k a b c, rfl, truth <| ifC (fun hl => ?_) fun hl => ?_⟩
  ·have hn:xs ++ (none:Option Int).toList = xs:=List.append_nil xs
   refine cov_load F (k:=k) (a:=a) (b:=b) (c:=c) I1 b6 l1 l2 l3 l7 fun P2 σ2 ρ2 pd2 ha2 I2 k2 gp => ?_
   exact out (hm.trans (if_pos hl)) (ha2.trans ha) (by rw [hn]; exact I2.up (Nat.add_le_add_left (by decide:2 ≤ 5) B)) k2 gp
  ·have hn:xs ++ (none:Option Int).toList = xs:=List.append_nil xs
   exact out (hm.trans (if_neg fun z => Bool.false_ne_true (hl.symm.trans z))) ha (by rw [hn]; exact I1.up (Nat.add_le_add_left (by decide:1 ≤ 5) B)) refl l3
end
end Mini
end
section
namespace Mini
open PySem PySem.W PyProof.Rows
noncomputable def sp_covered:Spec:=fun vs σ Q => ∃ r f rows fx, vs = [.ref r, .ref f] ∧ σ r = some (.list (rows.map orow)) ∧ FixD σ f fx ∧ rows.length ≤ 100 ∧ (∀ x, some x ∈ rows → x.Ok) ∧
 ∀ d σ', σ d = none → σ' d = some (.list ((covL fx VS.empty (fun _ => none) 0 rows).map V.int)) → Ext σ σ' → Q (.ref d) σ'
section
variable {σ0 σ σ':Store} {P P':VP} {S S':VS} {pend pend':Pend} {B B':Nat} {pd fd:Addr} {xs:List Int} {Γ:GE}
noncomputable def covBody:List Mini.S:=[.assign "row" (.sub (.var "rows") (.var "at")), .ite (.cmp .Is (.var "row") (.lit .none)) [.cont] [], .ite (.boolop true [(.cmp .In (.var "at") (.var "fixed")), (.call "is_control" [(.var "row")])]) covFix [.ite (.call "is_memory" [(.var "row")]) covMem covCalc]]
noncomputable def covStep (S:VS) (pend:Pend) (fx:Bool) (pos:Int):Option Row → VS × Pend × Option Int
 | none => (S, pend, none)
 | some r => cov1 S pend fx pos r
theorem cov_turn (F:CovFns Γ) {ρ:Loc} {rows:List (Option Row)} {r f:Addr} {fx:Int → Bool} {j:Nat} {row:Option Row} {K:Fl → Loc → Store → Prop} (I:CovI σ0 σ P S pend B pd fd xs) (hB:B + 6 ≤ 900) (hx:xs.length ≤ 1000) (hok:∀ x, row = some x → x.Ok)
  (er:σ r = some (.list (rows.map orow))) (hl:rows.length ≤ 1000) (hj:rows[j]? = some row) (ef:FixD σ f fx) (g1:ρ.get "values" = some (.ref P.a)) (g2:ρ.get "rows" = some (.ref r)) (g3:ρ.get "pending" = some (.ref pd)) (g4:ρ.get "found" = some (.ref fd)) (g5:ρ.get "at" = some (.int j)) (g6:ρ.get "fixed" = some (.ref f))
  (h:∀ P' σ' ρ' pd' fl, (fl = .next ∨ fl = .cont) → P'.a = P.a → CovI σ0 σ' P' (covStep S pend (fx j) j row).1 (covStep S pend (fx j) j row).2.1 (B + 5) pd' fd (xs ++ (covStep S pend (fx j) j row).2.2.toList) → KeepL ρ ρ' → ρ'.get "pending" = some (.ref pd') → K fl ρ' σ'):wSs Γ covBody ρ σ K:=by
 have kl:∀ {v}, KeepL ρ (ρ.set "row" v):=fun x h1 _ _ _ => lget_ne h1
 have hn:xs ++ (none:Option Int).toList = xs:=List.append_nil xs
 refine s_assign <| x_sub <| x_var g2 <| x_var g5 <| lst_at er (len_map hl (by decide)) (at_map hj) <| s_if <| t_cmp <| x_var g_here <| x_lit <| c_is ?_
 cases row with
 | none => exact ifT rfl <| s_cont <| h P σ _ pd .cont (.inr rfl) rfl (by show CovI _ _ _ _ _ _ _ _ (xs ++ (none:Option Int).toList); rw [hn]; exact I.up (Nat.le_add_right B 5)) kl (g_th g3)
 | some row =>
  have nn:(orow (some row)).isNone = false:=by cases row <;> rfl
  refine ifF nn ?_
  show wSs Γ _ (ρ.set "row" row.v) σ K
  generalize hρ1:ρ.set "row" row.v = ρ1
  have kk:KeepL ρ ρ1:=hρ1 ▸ kl
  have l1:ρ1.get "values" = some (.ref P.a):=hρ1 ▸ g_th g1
  have l2:ρ1.get "row" = some row.v:=hρ1 ▸ g_here
  have l3:ρ1.get "pending" = some (.ref pd):=hρ1 ▸ g_th g3
  have l4:ρ1.get "found" = some (.ref fd):=hρ1 ▸ g_th g4
  have l5:ρ1.get "at" = some (.int j):=hρ1 ▸ g_th g5
  have l6:ρ1.get "fixed" = some (.ref f):=hρ1 ▸ g_th g6
  have cont':∀ {S2:VS} {pe:Pend} {fo:Option Int}, cov1 S pend (fx j) j row = (S2, pe, fo) → ∀ P' σ' ρ' pd', P'.a = P.a → CovI σ0 σ' P' S2 pe (B + 5) pd' fd (xs ++ fo.toList) → KeepL ρ1 ρ' → ρ'.get "pending" = some (.ref pd') → K .next ρ' σ':=fun {S2 pe fo} e P1 σ1 ρ2 pd1 ha I1 k2 g => by
   change ∀ P' σ' ρ' pd' fl, _ → _ → CovI σ0 σ' P' (cov1 S pend (fx j) j row).1 (cov1 S pend (fx j) j row).2.1 (B + 5) pd' fd (xs ++ (cov1 S pend (fx j) j row).2.2.toList) → _ → _ → K fl ρ' σ' at h
   rw [e] at h
   exact h P1 σ1 ρ2 pd1 .next (.inl rfl) ha I1 (fun x h1 h2 h3 h4 => (k2 x h1 h2 h3 h4).trans (kk x h1 h2 h3 h4)) g
  have fixr:(cov1 S pend (fx j) j row = (S.fixed row, (fun _ => none), none)) → wSs Γ covFix ρ1 σ (seqK Γ [] K):=fun z => cov_fix F I (Nat.le_trans (Nat.le_of_succ_le hB) (by decide)) l1 l2 fun P1 σ1 ρ2 pd1 ha I1 k2 g => cont' z P1 σ1 ρ2 pd1 ha (by rw [hn]; exact I1) k2 g
  refine s_ite <| t_bool <| ts_cons <| t_cmp <| x_var l5 <| x_var l6 <| c_in <| ef.in_ <| ifC (fun q => ifT rfl <| fixr ?_) fun q => ts_cons <| t_call F.ctl <| xs_cons <| x_var l2 <| xs_nil ⟨row, rfl, truth ?_⟩
  ·cases row with
   | trap => rfl
   | ins k a b c => unfold cov1; dsimp only; rw [if_pos q]
  ·cases row with
   | trap c n m => exact ifT rfl <| ifT rfl <| fixr rfl
   | ins k a b c =>
    rw [q] at cont'
    refine ifF rfl <| ts_nil <| ifF rfl <| s_ite <| t_call F.ism <| xs_cons <| x_var l2 <| xs_nil ⟨.ins k a b c, rfl, truth <| ifC (fun hm => ?_) fun hm => ?_⟩
    ·exact cov_mem F I hB hx hm l1 l2 l3 l4 l5 (cont' rfl)
    ·refine cov_calc F I (Nat.le_trans (Nat.le_of_succ_le hB) (by decide)) (hok _ rfl) l1 l2 l3 fun P1 σ1 ρ2 pd1 ha I1 k2 g => cont' ?_ P1 σ1 ρ2 pd1 ha (by rw [hn]; exact I1) k2 g
     have hm:k.mem = false:=hm
     unfold cov1; dsimp only; rw [if_neg Bool.false_ne_true, if_neg fun z => Bool.false_ne_true (hm.symm.trans z)]
theorem cov_step_eq {fx:Int → Bool} {i:Nat} {row:Option Row} {rs:List (Option Row)}:covL fx S pend i (row :: rs) = (covStep S pend (fx i) i row).2.2.toList ++ covL fx (covStep S pend (fx i) i row).1 (covStep S pend (fx i) i row).2.1 (i + 1) rs:=by
 cases row <;> rfl
theorem len_opt (o:Option Int):o.toList.length ≤ 1:=by
 cases o with
 | none => exact Nat.zero_le _
 | some _ => exact Nat.le_refl _
structure CovJ (σ0:Store) (P:VP) (fd:Addr) (fx:Int → Bool) (rows:List (Option Row)) (j:Nat) (σ':Store) (P':VP) (S:VS) (pend:Pend) (pd:Addr) (xs:List Int):Prop where
 a:P'.a = P.a
 I:CovI σ0 σ' P' S pend (5 * j) pd fd xs
 len:xs.length ≤ j
 eq:xs ++ covL fx S pend j (rows.drop j) = covL fx VS.empty (fun _ => none) 0 rows
theorem ok_covered (F:CovFns Γ) (hV:Γ.fn "Values" = some sp_Values) {vs:List V} {σ:Store} {Q:V → Store → Prop} (h:sp_covered vs σ Q):wBody Γ ["rows", "fixed"] b_covered_stores vs σ Q:=by
 obtain ⟨r, f, rows, fx, rfl, er, ef, hl, hok, hq⟩:=h
 refine body_intro rfl ?_
 show wSs Γ (.assign "values" (.call "Values" []) :: .assign "pending" (.dict [] []) :: .assign "found" (.list []) :: .for_ "at" (.range [(.bcall .len [(.var "rows")])]) covBody :: [.ret (.var "found")]) _ σ _
 generalize hρ:((Loc.set [] "rows" (V.ref r)).set "fixed" (.ref f)) = ρ
 have g1:ρ.get "rows" = some (.ref r):=hρ ▸ g_th g_here
 have g2:ρ.get "fixed" = some (.ref f):=hρ ▸ g_here
 refine s_assign <| x_call hV <| xs_nil ⟨rfl, fun P σ1 iv1 x1 fr => s_assign <| x_empty fun pd hpd => s_assign <| x_list <| xs_nil fun fd hfd => ?_⟩
 obtain ⟨ne, hf⟩:=free_of hfd
 have pP:=iv1.no hpd
 have fP:=iv1.no hf
 have p0:=x1.free hpd
 have f0:=x1.free hf
 have hA:Held σ σ1 P:=fun b o e => ⟨x1 _ _ e, fun z => by rw [fr b (ft_all z)] at e; exact nomatch e⟩
 have h0:Held σ ((σ1.set pd (.dict [])).set fd (.list [])) P:=(hA.set (b:=pd) (o:=.dict []) p0).set (b:=fd) (o:=.list []) f0
 have I0:CovI σ ((σ1.set pd (.dict [])).set fd (.list [])) P VS.empty (fun _ => none) 0 pd fd [] :=
  ⟨iv1.frame fun y hy => (set_ne (show y ≠ fd from fun z => fP (z ▸ hy))).trans (set_ne (show y ≠ pd from fun z => pP (z ▸ hy))), (fun n x q => nomatch q), h0, ⟨[], (set_ne ne.symm).trans set_eq, MapK.nil⟩, pP, p0, set_eq, fP, f0, ne.symm⟩
 refine s_for <| i_range <| xs_cons <| x_bcall <| xs_cons <| x_var (g_th (g_th (g_th g1))) <| xs_nil <| lst_len (h0 r _ er).1 (len_map hl (by decide)) <| xs_nil <| r_nat (len_map hl (by decide)) ?_
 rw [List.length_map]
 refine for_range (fun j ρ σ' => ∃ P' S pend pd' xs, CovJ σ P fd fx rows j σ' P' S pend pd' xs ∧ ρ.get "values" = some (.ref P.a) ∧ ρ.get "pending" = some (.ref pd') ∧ ρ.get "found" = some (.ref fd) ∧ ρ.get "rows" = some (.ref r) ∧ ρ.get "fixed" = some (.ref f)) ?_ ?_ ?_
 ·exact ⟨P, VS.empty, _, pd, [], ⟨rfl, I0, Nat.le_refl _, rfl⟩, g_th (g_th g_here), g_th g_here, g_here, g_th (g_th (g_th g1)), g_th (g_th (g_th g2))⟩
 ·rintro j ρ' σ' K' hj ⟨P', S, pend, pd', xs, J, i1, i2, i3, i4, i5⟩ q1 q2 q3
  have ef':FixD σ' f fx:=let ⟨eff, t1, t2⟩:=ef; ⟨eff, (J.I.held f _ t1).1, t2⟩
  have b5:5 * j + 6 ≤ 900:=Nat.le_trans (Nat.succ_le_succ (Nat.mul_le_mul_left 5 (Nat.le_trans (Nat.succ_le_of_lt hj) hl))) (by decide)
  refine cov_turn F (rows:=rows) (r:=r) (f:=f) (fx:=fx) (j:=j) (row:=rows[j]) J.I b5 (Nat.le_trans J.len (Nat.le_trans (Nat.le_of_lt hj) (Nat.le_trans hl (by decide)))) (fun x hx => hok x (by rw [← hx]; exact List.getElem_mem hj)) (J.I.held r _ er).1 (Nat.le_trans hl (by decide)) (List.getElem?_eq_getElem hj) ef' (J.a ▸ g_th i1) (g_th i4) (g_th i2) (g_th i3) g_here (g_th i5) fun P2 σ2 ρ2 pd2 fl hfl ha2 I2 kl gp => ?_
  have g:∀ x:String, x ≠ "row" → x ≠ "base" → x ≠ "place" → x ≠ "pending" → x ≠ "at" → ρ2.get (Str.ofString x) = ρ'.get (Str.ofString x):=fun x a1 a2 a3 a4 a5 => (kl x a1 a2 a3 a4).trans (lget_ne a5)
  have fin:∃ P' S pend pd' xs, CovJ σ P fd fx rows (j + 1) σ2 P' S pend pd' xs ∧ ρ2.get "values" = some (.ref P.a) ∧ ρ2.get "pending" = some (.ref pd') ∧ ρ2.get "found" = some (.ref fd) ∧ ρ2.get "rows" = some (.ref r) ∧ ρ2.get "fixed" = some (.ref f):=by
   refine ⟨P2, _, _, pd2, _, ⟨ha2.trans J.a, I2, ?_, ?_⟩, (g _ (by decide) (by decide) (by decide) (by decide) (by decide)).trans i1, gp, (g _ (by decide) (by decide) (by decide) (by decide) (by decide)).trans i3, (g _ (by decide) (by decide) (by decide) (by decide) (by decide)).trans i4, (g _ (by decide) (by decide) (by decide) (by decide) (by decide)).trans i5⟩
   ·rw [List.length_append]; exact Nat.add_le_add J.len (len_opt _)
   ·rw [← J.eq, List.drop_eq_getElem_cons hj, cov_step_eq, List.append_assoc]
  exact hfl.elim (fun e => by rw [e]; exact q2 _ _ fin) fun e => by rw [e]; exact q3 _ _ fin
 ·rintro ρ' σ' ⟨P', S, pend, pd', xs, J, i1, i2, i3, i4, i5⟩
  have:covL fx S pend rows.length (rows.drop rows.length) = []:=by rw [List.drop_length]; rfl
  refine s_ret <| x_var i3 <| hq fd σ' f0 ?_ fun b o e => (J.I.held b o e).1
  rw [← J.eq, this, List.append_nil]; exact J.I.fdD
end
end Mini
end
section
namespace Mini
open PySem PySem.W PyProof.Rows
section
variable {S:VS} {fx:Int → Bool}
theorem regs16_mem:∀ x ∈ regs16, 0 ≤ x ∧ x < 16:=by decide
theorem holder_rg {n a:Int} (h:S.holder n a ≥ 0):0 ≤ S.holder n a ∧ S.holder n a < 16:=by
 rcases hold_ge (f:=S.regs) (n:=n) (but:=a) (rs:=regs16) with e | e
 ·rw [show S.holder n a = -1 from e] at h; exact absurd h (by decide)
 ·exact regs16_mem _ e
theorem imm_all {P:Row → Prop} {k:Kd} {a b d:Int} (h:P (.ins k a b d)) (h2:∀ o i, k = .op o → P (.ins (.opi o) a b i)):P (S.imm k a b d).1:=by
 cases k with
 | op o =>
  unfold VS.imm
  dsimp only
  cases (S.of d).2.consts (S.of d).1 with
  | none => exact h
  | some x =>
   dsimp only
   cases asImm x with
   | none => exact h
   | some i => exact h2 o i rfl
 | _ => exact h
theorem imm_ok {k:Kd} {a b d:Int} (h:(Row.ins k a b d).Ok):(S.imm k a b d).1.Ok :=
 imm_all h fun o i _ => ⟨h.1, h.2.1, h.2.2.1, h.2.2.2.1, (fun z => absurd z Bool.false_ne_true), fun z => absurd z Bool.false_ne_true⟩
theorem mov_ok {n a:Int} (ha:0 ≤ a ∧ a < 16) (h:S.holder n a ≥ 0):(Row.ins .mov a 0 (S.holder n a)).Ok :=
 ⟨ha.1, ha.2, by decide, by decide, (fun z => absurd z Bool.false_ne_true), fun _ => holder_rg h⟩
theorem movi_ok {a i:Int} (ha:0 ≤ a ∧ a < 16):(Row.ins .movi a 0 i).Ok :=
 ⟨ha.1, ha.2, by decide, by decide, (fun z => absurd z Bool.false_ne_true), fun z => absurd z Bool.false_ne_true⟩
theorem simp1_all {P:Row → Prop} {k:Kd} {a b c:Int} {f dead:Bool} (h0:P (.ins k a b c)) (h1:∀ (T:VS) n, T.holder n a ≥ 0 → P (.ins .mov a 0 (T.holder n a))) (h2:∀ i, P (.ins .movi a 0 i)) (h3:∀ T:VS, P (T.imm k a b c).1):∀ r, (S.simp1 f (.ins k a b c) dead).1 = some r → P r:=by
 have it:∀ {T:VS} (r:Row), ((some (.ins k a b c), T):Option Row × VS).1 = some r → P r:=fun r e => Option.some.inj e ▸ h0
 refine iteInduction (motive:=fun p:Option Row × VS => ∀ r, p.1 = some r → P r) (fun _ => it) fun _ => iteInduction (motive:=fun p:Option Row × VS => ∀ r, p.1 = some r → P r) (fun _ => ?_) fun _ => iteInduction (motive:=fun p:Option Row × VS => ∀ r, p.1 = some r → P r) (fun _ => ?_) fun _ => ?_
 ·cases h:(if k = .ldb then none else (S.of b).2.words ((S.of b).1, c)) with
  | none => rw [VS.load_new h]; exact it
  | some n =>
   rw [VS.load_old h]
   exact iteInduction (motive:=fun o:Option Row => ∀ r, o = some r → P r) (fun _ r e => nomatch e) fun _ => iteInduction (motive:=fun o:Option Row => ∀ r, o = some r → P r) (fun q r e => Option.some.inj e ▸ h1 _ _ q.2) fun _ r e => Option.some.inj e ▸ h0
 ·exact iteInduction (motive:=fun p:Option Row × VS => ∀ r, p.1 = some r → P r) (fun _ r e => nomatch e) fun _ => it
 ·refine better_all (C:=fun p:Option Row × VS => ∀ r, p.1 = some r → P r) (fun r e => Option.some.inj e ▸ h3 _) (fun _ _ _ r e => nomatch e) fun _ r hs r' e => ?_
  rw [← Option.some.inj e]
  rcases (short_some hs).2 with ⟨x, i, _, _, rfl⟩ | ⟨q, rfl⟩
  ·exact h2 i
  ·exact h1 _ _ q
theorem simp1_ok {f:Bool} {row r:Row} {dead:Bool} (hr:row.Ok) (h:(S.simp1 f row dead).1 = some r):r.Ok:=by
 cases row with
 | trap => exact Option.some.inj h ▸ hr
 | ins k a b c => exact simp1_all hr (fun T n q => mov_ok ⟨hr.1, hr.2.1⟩ q) (fun i => movi_ok ⟨hr.1, hr.2.1⟩) (fun T => imm_ok hr) r h
theorem simp1_ctl {f:Bool} {k:Kd} {a b c:Int} {dead:Bool}:∀ r, (S.simp1 f (.ins k a b c) dead).1 = some r → r.ctl = false :=
 simp1_all (P:=fun r => r.ctl = false) rfl (fun _ _ _ => rfl) (fun _ => rfl) fun T => imm_all (P:=fun r => r.ctl = false) rfl fun _ _ _ => rfl
theorem simpL_ok:∀ (rows:List Row) (ds:List Bool) (i:Nat) (S:VS), (∀ r ∈ rows, r.Ok) → ∀ r, some r ∈ simpL S fx i rows ds → r.Ok:=by
 intro rows
 induction rows with
 | nil => intro ds i S h r hr; exact absurd (show some r ∈ [] from hr) List.not_mem_nil
 | cons x rs ih =>
  intro ds i S h r hr
  cases ds with
  | nil => exact absurd (show some r ∈ [] from hr) List.not_mem_nil
  | cons d ds => exact (List.mem_cons.mp (show some r ∈ (S.simp1 (fx i) x d).1 :: simpL _ fx (i + 1) rs ds from hr)).elim (fun q => simp1_ok (h x (.head _)) q.symm) fun q => ih ds (i + 1) _ (fun y hy => h y (.tail _ hy)) r q
theorem simpL_len:∀ (rows:List Row) (ds:List Bool) (i:Nat) (S:VS), rows.length = ds.length → (simpL S fx i rows ds).length = rows.length:=by
 intro rows
 induction rows with
 | nil => intro ds i S h; rfl
 | cons x rs ih =>
  intro ds i S h
  cases ds with
  | nil => exact nomatch h
  | cons d ds => exact congrArg Nat.succ (ih ds (i + 1) _ (Nat.succ.inj h))
theorem cov1_all {C:VS × Pend × Option Int → Prop} {pend:Pend} {f:Bool} {pos:Int} {k:Kd} {a b c:Int} (h1:∀ T, C (T, (fun _ => none), none)) (h2:¬ f = true → k = .str → ∀ T q, C (T, upd pend q pos, pend q)) (h3:∀ T p, C (T, keepP pend p k c, none)) (h4:∀ T, C (T, pend, none)):C (cov1 S pend f pos (.ins k a b c)) :=
 iteInduction (motive:=C) (fun _ => h1 _) fun hf => iteInduction (motive:=C) (fun _ => iteInduction (motive:=C) (fun hk => h2 hf hk _ _) fun _ => iteInduction (motive:=C) (fun _ => h3 _ _) fun _ => h4 _) fun _ => h4 _
theorem covStep_pend {pend:Pend} {f:Bool} {pos:Int} {row:Option Row} {p:Int × Int} {x:Int} (h:(covStep S pend f pos row).2.1 p = some x):x = pos ∨ ∃ p, pend p = some x:=by
 cases row with
 | none => exact .inr ⟨p, h⟩
 | some r =>
  cases r with
  | trap => exact nomatch h
  | ins k a b c =>
   revert h
   refine cov1_all (C:=fun t => t.2.1 p = some x → x = pos ∨ ∃ p, pend p = some x) (fun T h => nomatch h) (fun _ _ T q => ?_) (fun T q => ?_) fun T h => .inr ⟨p, h⟩
   ·exact iteInduction (motive:=fun o => o = some x → x = pos ∨ ∃ p, pend p = some x) (fun _ h => .inl (Option.some.inj h).symm) fun _ h => .inr ⟨p, h⟩
   ·exact iteInduction (motive:=fun o => o = some x → x = pos ∨ ∃ p, pend p = some x) (fun _ h => .inr ⟨p, h⟩) fun _ h => nomatch h
theorem covStep_found {pend:Pend} {f:Bool} {pos:Int} {row:Option Row} {x:Int} (h:x ∈ (covStep S pend f pos row).2.2.toList):∃ p, pend p = some x:=by
 have no:x ∈ (none:Option Int).toList → ∃ p, pend p = some x:=fun h => absurd h List.not_mem_nil
 cases row with
 | none => exact no h
 | some r =>
  cases r with
  | trap => exact no h
  | ins k a b c =>
   revert h
   exact cov1_all (C:=fun t => x ∈ t.2.2.toList → ∃ p, pend p = some x) (fun T => no) (fun _ _ T q h => ⟨q, Option.mem_toList.mp h⟩) (fun T q => no) fun T => no
theorem covL_mem:∀ (rs:List (Option Row)) (S:VS) (pend:Pend) (i:Nat) (x:Int), x ∈ covL fx S pend i rs → (∃ p, pend p = some x) ∨ (i ≤ x ∧ x < i + rs.length):=by
 intro rs
 induction rs with
 | nil => intro S pend i x h; exact absurd h List.not_mem_nil
 | cons row rs ih =>
  intro S pend i x h
  rw [cov_step_eq] at h
  rcases List.mem_append.mp h with h | h
  ·exact .inl (covStep_found h)
  ·rcases ih _ _ (i + 1) x h with ⟨p, hp⟩ | ⟨h1, h2⟩
   ·rcases covStep_pend hp with q | q
    ·exact .inr ⟨Int.le_of_eq q.symm, Int.lt_of_le_of_lt (Int.le_of_eq q) (Int.lt_add_of_pos_right _ (Int.ofNat_lt.mpr (Nat.succ_pos _)))⟩
    ·exact .inl q
   ·exact .inr ⟨Int.le_trans (Int.ofNat_le.mpr (Nat.le_succ i)) h1, Int.lt_of_lt_of_le h2 (Int.le_of_eq (congrArg (fun n:Nat => (n:Int)) (Nat.add_right_comm i 1 rs.length)))⟩
theorem covL_len:∀ (rs:List (Option Row)) (S:VS) (p:Pend) (i:Nat), (covL fx S p i rs).length ≤ rs.length:=by
 intro rs
 induction rs with
 | nil => intro S p i; exact Nat.le_refl _
 | cons r rs ih =>
  intro S p i
  rw [cov_step_eq, List.length_append, List.length_cons, Nat.add_comm rs.length]
  exact Nat.add_le_add (len_opt _) (ih ..)
end
noncomputable def blank (l:List (Option Row)) (xs:List Int):List (Option Row):=xs.foldl (fun l i => l.set i.toNat none) l
noncomputable def simplRows (fx:Int → Bool) (rows:List Row):List (Option Row):=simpL VS.empty fx 0 rows (deads rows).1
noncomputable def numberRun (fx:Int → Bool) (rows:List Row):List (Option Row):=blank (simplRows fx rows) (covL fx VS.empty (fun _ => none) 0 (simplRows fx rows))
noncomputable def sp_number:Spec:=fun vs σ Q => ∃ r f rows fx, vs = [.ref r, .ref f] ∧ σ r = some (.list (rows.map Row.v)) ∧ FixD σ f fx ∧ rows.length ≤ 100 ∧ (∀ x ∈ rows, x.Ok) ∧
 ∀ d σ', σ d = none → σ' d = some (.list ((numberRun fx rows).map orow)) → Ext σ σ' → Q (.ref d) σ'
section
variable {σ σ':Store} {Γ:GE}
noncomputable def blankBody:List Mini.S:=[.setSub (.var "result") (.var "at") (.lit .none)]
theorem blank_loop {d e:Addr} {us:List V} {K:Fl → Loc → Store → Prop} (ne:e ≠ d) {n:Nat} (hn:n ≤ 100):∀ (xs:List Int) (l:List (Option Row)) (ρ:Loc) (σ:Store), l.length = n → (∀ x ∈ xs, 0 ≤ x ∧ x < n) → ρ.get "result" = some (.ref d) → σ d = some (.list (l.map orow)) → σ e = some (.list us) →
  (∀ ρ' σ', ρ'.get "result" = some (.ref d) → σ' d = some (.list ((blank l xs).map orow)) → (∀ b, b ≠ d → σ' b = σ b) → K .next ρ' σ') →
  forLoop (fun σ' => σ' e = some (.list us)) (fun ρ' σ' Q' => wSs Γ blankBody ρ' σ' Q') "at" (xs.map V.int) ρ σ K:=by
 intro xs
 induction xs with
 | nil => intro l ρ σ hl hx g e1 e2 h; exact fl_nil e2 (h ρ σ g e1 fun _ _ => rfl)
 | cons x xs ih =>
  intro l ρ σ hl hx g e1 e2 h
  obtain ⟨x0, x1⟩:=hx x (.head _)
  refine fl_cons e2 <| s_sub <| x_lit <| x_var (g_th g) <| x_var g_here <| lst_set e1 (j:=x.toNat) (Int.toNat_of_nonneg x0).symm (len_map (Nat.le_of_eq hl) (Nat.le_trans hn (by decide))) (by rw [List.length_map, hl]; exact (Int.toNat_lt x0).mpr x1) ?_
  have em:(l.map orow).set x.toNat .none = (l.set x.toNat none).map orow:=by rw [List.map_set]; rfl
  rw [em]
  exact ih (l.set x.toNat none) (ρ.set "at" (.int x)) _ (List.length_set.trans hl) (fun y hy => hx y (.tail _ hy)) (g_th g) set_eq ((set_ne ne).trans e2) fun ρ' σ' q1 q2 q3 => h ρ' σ' q1 q2 fun b hb => (q3 b hb).trans (set_ne hb)
theorem i_call {f:Str} {sp:Spec} {xs:List X} {ρ:Loc} {Q:ItQ} (hf:Γ.fn f = some sp) (h:wXs Γ xs ρ σ fun vs σ₁ => sp vs σ₁ fun v σ₂ => iterVal v σ₂ Q):wIter Γ (.call f xs) ρ σ Q:=⟨sp, hf, h⟩
theorem ok_number (h1:Γ.fn "simplified" = some sp_simplified) (h2:Γ.fn "covered_stores" = some sp_covered) {vs:List V} {σ:Store} {Q:V → Store → Prop} (h:sp_number vs σ Q):wBody Γ ["rows", "fixed"] b_number_run vs σ Q:=by
 obtain ⟨r, f, rows, fx, rfl, er, ef, hl, hok, hq⟩:=h
 refine body_intro rfl ?_
 show wSs Γ (.assign "result" (.call "simplified" [(.var "rows"), (.var "fixed")]) :: .for_ "at" (.call "covered_stores" [(.var "result"), (.var "fixed")]) blankBody :: [.ret (.var "result")]) _ σ _
 generalize hρ:((Loc.set [] "rows" (V.ref r)).set "fixed" (.ref f)) = ρ
 have g1:ρ.get "rows" = some (.ref r):=hρ ▸ g_th g_here
 have g2:ρ.get "fixed" = some (.ref f):=hρ ▸ g_here
 have ll:(simplRows fx rows).length = rows.length:=simpL_len rows _ 0 _ (deads_len rows).symm
 have l2:(simplRows fx rows).length ≤ 100:=Nat.le_trans (Nat.le_of_eq ll) hl
 refine s_assign <| x_call h1 <| xs_cons <| x_var g1 <| xs_cons <| x_var g2 <| xs_nil ⟨r, f, rows, fx, rfl, er, ef, Nat.le_trans hl (by decide), hok, fun d σ1 hd ed x1 => ?_⟩
 have ef1:FixD σ1 f fx:=let ⟨eff, t1, t2⟩:=ef; ⟨eff, x1 _ _ t1, t2⟩
 have hb:∀ x ∈ covL fx VS.empty (fun _ => none) 0 (simplRows fx rows), 0 ≤ x ∧ x < ((rows.length:Nat):Int):=fun x hx => by
  rcases covL_mem _ _ _ _ x hx with ⟨p, hp⟩ | ⟨q1, q2⟩
  ·exact nomatch hp
  ·rw [ll] at q2; exact ⟨q1, Int.lt_of_lt_of_le q2 (Int.le_of_eq (Int.zero_add _))⟩
 refine s_for <| i_call h2 <| xs_cons <| x_var g_here <| xs_cons <| x_var (g_th g2) <| xs_nil ⟨d, f, simplRows fx rows, fx, rfl, ed, ef1, l2, simpL_ok rows _ 0 _ hok, fun e σ2 he ee x2 => it_list ee (len_map (covL_len _ _ _ _) (Nat.le_trans l2 (by decide))) ?_⟩
 have ne:e ≠ d:=fun z => by rw [z, ed] at he; exact nomatch he
 refine blank_loop ne hl _ (simplRows fx rows) _ _ ll hb g_here (x2 _ _ ed) ee fun ρ' σ' q1 q2 q3 => s_ret <| x_var q1 <| hq d σ' hd q2 fun b o hbo => ?_
 exact (q3 b (fun z => by rw [z, hd] at hbo; exact nomatch hbo)).trans (x2 _ _ (x1 _ _ hbo))
end
end Mini
end
section
namespace Mini
open PySem PySem.W PyProof.Rows
noncomputable def Dr (σ:Store) (d:Addr):Prop:=∃ zs:List Int, σ d = some (.list (zs.map V.int)) ∧ (∀ z ∈ zs, 0 ≤ z) ∧ zs.length ≤ 90
noncomputable def ExtB (d:Addr) (σ σ':Store):Prop:=∀ b o, b ≠ d → σ b = some o → σ' b = some o
theorem ExtB.refl {d:Addr} {σ:Store}:ExtB d σ σ:=fun b o _ e => e
theorem ExtB.trans {d:Addr} {σ σ' σ'':Store} (h:ExtB d σ σ') (h':ExtB d σ' σ''):ExtB d σ σ'':=fun b o n e => h' b o n (h b o n e)
theorem ExtB.new {d b:Addr} {σ:Store} {o:MObj} (h:σ b = none):ExtB d σ (σ.set b o):=fun x o' n e => by
 rw [set_ne (fun z => by subst z; rw [h] at e; cases e)]; exact e
theorem Dr.new {d b:Addr} {σ:Store} {o:MObj} (h:Dr σ d) (hb:σ b = none):Dr (σ.set b o) d:=by
 obtain ⟨zs, e, r⟩:=h
 exact ⟨zs, by rw [set_ne (fun z => by subst z; rw [hb] at e; cases e)]; exact e, r⟩
noncomputable def sp_figures:Spec:=fun vs σ Q => ∃ (l:Addr) (ns:List Int), vs = [.ref l] ∧ σ l = some (.frozen (ns.map V.int)) ∧ ns.length ≤ 100 ∧ ∀ d σ', σ d = none → Dr σ' d → Ext σ σ' → Q (.ref d) σ'
noncomputable def sp_draw:Spec:=fun vs σ Q => ∃ d m, vs = [.ref d, .int m] ∧ Dr σ d ∧ 0 < m ∧ ∀ v σ', 0 ≤ v → v < m → Dr σ' d → ExtB d σ σ' → Q (.int v) σ'
section
variable {σ σ':Store} {Γ:GE}
theorem len_take {α:Type} {l:List α} {n:Nat}:(l.take n).length ≤ n:=by rw [List.length_take]; exact Nat.min_le_left _ _
theorem ok_draw {vs:List V} {σ:Store} {Q:V → Store → Prop} (h:sp_draw vs σ Q):wBody Γ ["row", "most"] b__law_draw vs σ Q:=by
 obtain ⟨d, m, rfl, ⟨zs, e, hz, hl⟩, hm, hq⟩:=h
 refine body_intro rfl ?_
 have g1:((Loc.set [] "row" (V.ref d)).set "most" (.int m)).get "row" = some (.ref d):=g_th g_here
 refine s_ret <| x_ite <| t_cmp <| x_var g1 <| x_list <| xs_nil fun b hb => ?_
 have e1:(σ.set b (.list [])) d = some (.list (zs.map V.int)):=at_new e hb
 rcases List.eq_nil_or_concat zs with rfl | ⟨ys, v, rfl⟩
 ·exact c_ne (r:=true) (deq_lists e1 set_eq) <| ifF rfl <| x_lit <| hq 0 _ (Int.le_refl 0) hm ⟨[], e1, hz, hl⟩ (ExtB.new hb)
 ·rw [List.concat_eq_append] at *
  have hl':ys.length ≤ 90:=Nat.le_trans (by rw [List.length_append]; exact Nat.le_add_right _ _) hl
  have e1':(σ.set b (.list [])) d = some (.list (ys.map V.int ++ [.int v])):=by rw [e1, List.map_append]; rfl
  refine c_ne (r:=false) ((deq_lists e1' set_eq).trans (if_pos (by rw [List.length_append]; exact Nat.succ_ne_zero _))) <| ifT rfl <| x_bin <| x_meth <| x_var g1 <| lst_kpop e1' <| xs_nil <| lst_pop e1' (len_map hl' (by decide)) <| x_var g_here <| n_mod' hm ?_
  refine hq _ _ (Int.emod_nonneg _ (Int.ne_of_gt hm)) (Int.emod_lt_of_pos _ hm) ⟨ys, set_eq, fun z hz' => hz z (List.mem_append_left _ hz'), hl'⟩ ?_
  exact (ExtB.new hb).trans fun x o nx ex => by rw [set_ne nx]; exact ex
theorem drawX (hd:Γ.fn "_law_draw" = some sp_draw) {ρ:Loc} {d:Addr} {m:Int} {Q:V → Store → Prop} (g:ρ.get "row" = some (.ref d)) (D:Dr σ d) (hm:0 < m) (h:∀ v σ', 0 ≤ v → v < m → Dr σ' d → ExtB d σ σ' → Q (.int v) σ'):wX Γ (.call "_law_draw" [(.var "row"), (.lit (.int m))]) ρ σ Q :=
 x_call hd <| xs_cons <| x_var g <| xs_cons <| x_lit <| xs_nil ⟨d, m, rfl, D, hm, h⟩
theorem of_nat {v:Int} {n:Nat} (h0:0 ≤ v) (h1:v < (n:Int)):∃ j:Nat, v = (j:Int) ∧ j < n:=⟨v.toNat, (Int.toNat_of_nonneg h0).symm, (Int.toNat_lt h0).mpr h1⟩
theorem pick (hd:Γ.fn "_law_draw" = some sp_draw) (ss:List String) {ρ:Loc} {d:Addr} {Q:V → Store → Prop} (g:ρ.get "row" = some (.ref d)) (D:Dr σ d) (hs:0 < ss.length ∧ ss.length ≤ 100) (h:∀ s ∈ ss, ∀ σ', Dr σ' d → ExtB d σ σ' → Q (.str (Str.ofString s)) σ') :
  wX Γ (.sub (.list (ss.map fun (s:String) => X.lit (.str (Str.ofString s)))) (.call "_law_draw" [(.var "row"), (.lit (.int ss.length))])) ρ σ Q:=by
 refine x_sub <| x_list <| lits ss fun b hb => ?_
 have nd:b ≠ d:=fun z => by obtain ⟨zs, e, _⟩:=D; rw [z, e] at hb; exact nomatch hb
 refine drawX hd g (D.new hb) (Int.ofNat_lt.mpr hs.1) fun v σ' h0 h1 D' x => ?_
 obtain ⟨j, rfl, lt⟩:=of_nat h0 h1
 refine lst_at (x b _ nd set_eq) (len_map hs.2 (by decide)) (v:=.str (Str.ofString ss[j])) (by rw [List.getElem?_map, List.getElem?_eq_getElem lt]; rfl) ?_
 exact h _ (List.getElem_mem lt) σ' D' ((ExtB.new hb).trans x)
noncomputable def figBody:List Mini.S:=[.ite (.boolop true [(.cmp .Eq (.var "lap") (.lit (.int (0)))), (.cmp .Gt (.var "rest") (.lit (.int (0))))]) [.expr (.meth (.var "row") "append" [(.bin .Mod (.var "rest") (.lit (.int (120))))]), .assign "rest" (.bin .FloorDiv (.var "rest") (.lit (.int (120))))] []]
theorem fig_turn {ρ:Loc} {d:Addr} {zs:List Int} {r j:Int} {K:Fl → Loc → Store → Prop} (g1:ρ.get "row" = some (.ref d)) (g2:ρ.get "rest" = some (.int r)) (g3:ρ.get "lap" = some (.int j)) (hr:0 ≤ r) (e:σ d = some (.list (zs.map V.int))) (hl:zs.length ≤ 90000) (hz:∀ z ∈ zs, 0 ≤ z)
  (h:∀ (ρ':Loc) (zs':List Int) (r':Int), ρ'.get "row" = some (.ref d) → ρ'.get "rest" = some (.int r') → 0 ≤ r' → zs'.length ≤ zs.length + 1 → (∀ z ∈ zs', 0 ≤ z) → K .next ρ' (σ.set d (.list (zs'.map V.int)))):wSs Γ figBody ρ σ K:=by
 have skip:K .next ρ σ:=by
  have q:=h ρ zs r g1 g2 hr (Nat.le_succ _) hz
  rwa [set_same e] at q
 have act:wSs Γ [.expr (.meth (.var "row") "append" [(.bin .Mod (.var "rest") (.lit (.int (120))))]), .assign "rest" (.bin .FloorDiv (.var "rest") (.lit (.int (120))))] ρ σ K:=by
  refine s_expr <| x_meth <| x_var g1 <| lst_kind e <| xs_cons <| x_bin <| x_var g2 <| x_lit <| n_mod' (by decide) <| xs_nil <| lst_append e (len_map hl (by decide)) ⟨rfl, ?_⟩
  refine s_assign <| x_bin <| x_var g2 <| x_lit <| n_div' (by decide) <| s_nil ?_
  have q:=h (ρ.set "rest" (.int (r / 120))) (zs ++ [r % 120]) (r / 120) (g_th g1) g_here (Int.ediv_nonneg hr (by decide)) (Nat.le_of_eq (List.length_append ..)) (fun z hz' => by
   rcases List.mem_append.mp hz' with q | q
   ·exact hz z q
   ·rw [List.mem_singleton.mp q]; exact Int.emod_nonneg _ (by decide))
  rw [List.map_append] at q
  exact q
 exact s_if <| t_bool <| ts_cons <| t_cmp <| x_var g3 <| x_lit <| c_eqi <| ifD (fun _ => ifT rfl act) fun _ => ts_cons <| t_cmp <| x_var g2 <| x_lit <| c_gt <| ifD (fun _ => ifT rfl act) fun _ => ts_nil <| ifF rfl <| s_nil skip
noncomputable def cellBody:List Mini.S:=[.assign "rest" (.bin .Add (.bin .Mult (.bcall .abs [(.var "cell")]) (.lit (.int (2)))) (.ite (.cmp .Lt (.var "cell") (.lit (.int (0)))) (.lit (.int (1))) (.lit (.int (0))))), .for_ "lap" (.range [(.lit (.int (40)))]) figBody]
theorem cell_turn {ρ:Loc} {d:Addr} {zs:List Int} {c:Int} {K:Fl → Loc → Store → Prop} (g1:ρ.get "row" = some (.ref d)) (g3:ρ.get "cell" = some (.int c)) (e:σ d = some (.list (zs.map V.int))) (hl:zs.length ≤ 10000) (hz:∀ z ∈ zs, 0 ≤ z)
  (h:∀ (ρ':Loc) (zs':List Int), ρ'.get "row" = some (.ref d) → zs'.length ≤ zs.length + 40 → (∀ z ∈ zs', 0 ≤ z) → K .next ρ' (σ.set d (.list (zs'.map V.int)))):wSs Γ cellBody ρ σ K:=by
 have go:∀ r:Int, 0 ≤ r → wSs Γ [.for_ "lap" (.range [(.lit (.int (40)))]) figBody] (ρ.set "rest" (.int r)) σ K:=by
  intro r hr
  refine s_for <| i_range <| xs_cons <| x_lit <| xs_nil <| r_nat (n:=40) (by decide) ?_
  refine for_range (fun j ρ σ' => ∃ (zs':List Int) (r:Int), ρ.get "row" = some (.ref d) ∧ ρ.get "rest" = some (.int r) ∧ 0 ≤ r ∧ zs'.length ≤ zs.length + j ∧ (∀ z ∈ zs', 0 ≤ z) ∧ σ' = σ.set d (.list (zs'.map V.int))) ?_ ?_ ?_
  ·exact ⟨zs, r, g_th g1, g_here, hr, Nat.le_refl _, hz, (set_same e).symm⟩
  ·rintro j ρ' σ' K' hj ⟨zs', r', i1, i2, i3, i4, i5, rfl⟩ q1 q2 q3
   refine fig_turn (j:=j) (g_th i1) (g_th i2) g_here i3 set_eq (Nat.le_trans i4 (Nat.le_trans (Nat.add_le_add hl (Nat.le_of_lt hj)) (by decide))) i5 fun ρ2 zs2 r2 k1 k2 k3 k4 k5 => q2 _ _ ⟨zs2, r2, k1, k2, k3, Nat.le_trans k4 (Nat.succ_le_succ i4), k5, set_set⟩
  ·rintro ρ' σ' ⟨zs', r', i1, i2, i3, i4, i5, rfl⟩
   exact h ρ' zs' i1 i4 i5
 refine s_assign <| x_bin <| x_bin <| x_bcall <| xs_cons <| x_var g3 <| xs_nil <| b_abs <| x_lit <| n_mul (.inr (by decide)) <| x_ite <| t_cmp <| x_var g3 <| x_lit <| c_lt <| ifD (fun _ => x_lit <| n_add <| go _ ?_) fun _ => x_lit <| n_add <| go _ ?_
 ·exact Int.add_nonneg (Int.mul_nonneg (Int.natCast_nonneg _) (by decide)) (by decide)
 ·exact Int.add_nonneg (Int.mul_nonneg (Int.natCast_nonneg _) (by decide)) (by decide)
theorem cell_loop {d s:Addr} (ne:s ≠ d) {us:List V} {K:Fl → Loc → Store → Prop} (hK:∀ (ρ':Loc) (zs':List Int), ρ'.get "row" = some (.ref d) → zs'.length ≤ 4000 → (∀ z ∈ zs', 0 ≤ z) → K .next ρ' (σ.set d (.list (zs'.map V.int)))) (hs:σ s = some (.list us)):∀ (cs:List Int) (zs:List Int) (ρ:Loc), ρ.get "row" = some (.ref d) → zs.length + 40 * cs.length ≤ 4000 → (∀ z ∈ zs, 0 ≤ z) →
  forLoop (fun σ' => σ' s = some (.list us)) (fun ρ' σ' Q' => wSs Γ cellBody ρ' σ' Q') "cell" (cs.map V.int) ρ (σ.set d (.list (zs.map V.int))) K:=by
 intro cs
 have gd:∀ {o:MObj}, (σ.set d o) s = some (.list us):=(set_ne ne).trans hs
 induction cs with
 | nil => intro zs ρ g hl hz; exact fl_nil gd (hK ρ zs g hl hz)
 | cons c cs ih =>
  intro zs ρ g hl hz
  have hl:zs.length + 40 + 40 * cs.length ≤ 4000:=by rw [List.length_cons, Nat.mul_succ, Nat.add_comm (40 * cs.length), ← Nat.add_assoc] at hl; exact hl
  refine fl_cons gd (cell_turn (d:=d) (zs:=zs) (g_th g) g_here set_eq (Nat.le_trans (Nat.le_trans (Nat.le_add_right _ _) (Nat.le_trans (Nat.le_add_right _ _) hl)) (by decide)) hz fun ρ' zs' k1 k2 k3 => ?_)
  dsimp only
  rw [set_set]
  exact ih zs' ρ' k1 (Nat.le_trans (Nat.add_le_add_right k2 _) hl) k3
theorem ok_figures {vs:List V} {σ:Store} {Q:V → Store → Prop} (h:sp_figures vs σ Q):wBody Γ ["script"] b__law_figures vs σ Q:=by
 obtain ⟨l, ns, rfl, e, hl, hq⟩:=h
 refine body_intro rfl ?_
 show wSs Γ (.assign "row" (.list []) :: .for_ "cell" (.slice (.var "script") none (some (.lit (.int (40))))) cellBody :: [.assign "row" (.slice (.var "row") none (some (.lit (.int (90))))), .expr (.meth (.var "row") "reverse" []), .ret (.var "row")]) _ σ _
 refine s_assign <| x_list <| xs_nil fun d hd => ?_
 refine s_for <| i_slice <| x_var (g_th g_here) <| o_none <| o_some <| x_lit <| frz_slice (n:=40) (by decide) (at_new e hd) (len_map hl (by decide)) fun s hs => ?_
 obtain ⟨nd, hs⟩:=free_of hs
 have len:(ns.take 40).length ≤ 40:=len_take
 refine it_list set_eq (by rw [← List.map_take]; exact len_map len (by decide)) ?_
 rw [← List.map_take, set_comm nd.symm]
 refine cell_loop (zs:=[]) nd (fun ρ' zs k1 k2 k3 => ?_) set_eq (ns.take 40) _ g_here ?_ (fun z hz => nomatch hz)
 ·refine s_assign <| x_slice <| x_var k1 <| o_none <| o_some <| x_lit <| lst_slice (n:=90) (by decide) set_eq (len_map k2 (by decide)) fun f hf => ?_
  refine s_expr <| x_meth <| x_var g_here <| lst_krev set_eq <| xs_nil <| lst_rev set_eq (by rw [← List.map_take]; exact len_map len_take (by decide)) ⟨rfl, s_ret <| x_var g_here ?_⟩
  rw [set_set]
  obtain ⟨_, hf⟩:=free_of hf
  obtain ⟨_, hf⟩:=free_of hf
  refine hq f _ hf ⟨(zs.take 90).reverse, by rw [set_eq, ← List.map_take, List.map_reverse], fun z hz => k3 z (List.mem_of_mem_take (List.mem_reverse.mp hz)), by rw [List.length_reverse]; exact len_take⟩ fun b o eb => ?_
  rw [set_ne (ne_new eb hf)]
  show ((σ.set s _).set d _) b = _
  rw [set_ne (ne_new eb hd), set_ne (ne_new eb hs)]; exact eb
 ·rw [List.length_nil, Nat.zero_add]; exact Nat.le_trans (Nat.mul_le_mul_left 40 len) (by decide)
end
end Mini
end
section
namespace Mini
open PySem PySem.W PyProof.Rows
noncomputable def sp_row_of:Spec:=fun vs σ Q => ∃ d, vs = [.ref d] ∧ Dr σ d ∧ ∀ (r:Row) σ', r.Ok → Dr σ' d → ExtB d σ σ' → Q r.v σ'
section
variable {σ σ':Store} {Γ:GE}
theorem lt_of3 {a n m:Int} (h:0 ≤ a ∧ a < n) (k:n ≤ m):0 ≤ a ∧ a < m:=⟨h.1, Int.lt_of_lt_of_le h.2 k⟩
theorem mod_bd {a n:Int} (h:0 < n):0 ≤ a % n ∧ a % n < n:=⟨Int.emod_nonneg _ (Int.ne_of_gt h), Int.emod_lt_of_pos _ h⟩
theorem mod_ok {a n:Int} (h:0 < n ∧ n ≤ 16):0 ≤ a % n ∧ a % n < 16:=lt_of3 (mod_bd h.1) h.2
theorem four_b {b:Int}:0 ≤ 4 + b % 2 ∧ 4 + b % 2 < 16:=by have:=mod_bd (a:=b) (n:=2) (by decide); omega
theorem four_v {v:Int} (h:0 ≤ v ∧ v < 3):0 ≤ 4 * v ∧ 4 * v ≤ 8:=by omega
theorem ok_ins {k:Kd} {a b d:Int} (h1:0 ≤ a ∧ a < 16) (h2:0 ≤ b ∧ b < 16) (h3:k.mem = true → 0 ≤ d ∧ d ≤ 8) (h4:k.regd = true → 0 ≤ d ∧ d < 16):Row.Ok (.ins k a b d):=⟨h1.1, h1.2, h2.1, h2.2, h3, h4⟩
theorem nof {b:Bool} {p:Prop} (h:b = false):b = true → p:=fun z => absurd (h.symm.trans z) Bool.false_ne_true
theorem mem_row (hd:Γ.fn "_law_draw" = some sp_draw) {ρ:Loc} {d:Addr} {ss:List String} {kd:String → Kd} {a b:Int} {K:Fl → Loc → Store → Prop} (hs:0 < ss.length ∧ ss.length ≤ 100) (hk:∀ s ∈ ss, (kd s).nm = Str.ofString s ∧ (kd s).regd = false) (ha:0 ≤ a ∧ a < 7) (hb:0 ≤ b ∧ b < 7) (D:Dr σ d)
  (g1:ρ.get "row" = some (.ref d)) (g2:ρ.get "first" = some (.int a)) (g3:ρ.get "second" = some (.int b)) (h:∀ (r:Row) σ', r.Ok → Dr σ' d → ExtB d σ σ' → K (.ret r.v) ρ σ') :
  wSs Γ [.ret (.tup [.sub (.list (ss.map fun (s:String) => X.lit (.str (Str.ofString s)))) (.call "_law_draw" [(.var "row"), (.lit (.int ss.length))]), (.var "first"), (.bin .Add (.lit (.int (4))) (.bin .Mod (.var "second") (.lit (.int (2))))), (.bin .Mult (.lit (.int (4))) (.call "_law_draw" [(.var "row"), (.lit (.int (3)))]))])] ρ σ K:=by
 refine s_ret <| x_tup <| xs_cons <| pick hd ss g1 D hs fun s hs σ1 D1 x1 => xs_cons <| x_var g2 <| xs_cons <| x_bin <| x_lit <| x_bin <| x_var g3 <| x_lit <| n_mod' (by decide) <| n_add <| xs_cons <| x_bin <| x_lit <| drawX hd g1 D1 (by decide) fun v σ2 h0 h1 D2 x2 => n_mul (.inl (by decide)) <| xs_nil ?_
 rw [← (hk s hs).1]
 exact h (.ins (kd s) a (4 + b % 2) (4 * v)) σ2 (ok_ins (lt_of3 ha (by decide)) four_b (fun _ => four_v ⟨h0, h1⟩) (nof (hk s hs).2)) D2 (x1.trans x2)
section
variable {x:String} {n i:Int} {ys r:List Mini.S} {ρ:Loc} {K:Fl → Loc → Store → Prop}
theorem ite_lt (g:ρ.get x = some (.int i)) (h1:i < n → wSs Γ ys ρ σ (seqK Γ r K)) (h2:¬ i < n → wSs Γ r ρ σ K):wSs Γ (.ite (.cmp .Lt (.var x) (.lit (.int n))) ys [] :: r) ρ σ K:=s_if <| t_cmp <| x_var g <| x_lit <| c_lt <| ifD h1 h2
theorem ite_eq (g:ρ.get x = some (.int i)) (h1:i = n → wSs Γ ys ρ σ (seqK Γ r K)) (h2:¬ i = n → wSs Γ r ρ σ K):wSs Γ (.ite (.cmp .Eq (.var x) (.lit (.int n))) ys [] :: r) ρ σ K:=s_if <| t_cmp <| x_var g <| x_lit <| c_eqi <| ifD h1 h2
end
theorem mod_lit {x:String} {a n:Int} {ρ:Loc} {Q:V → Store → Prop} (hn:0 < n) (g:ρ.get x = some (.int a)) (h:Q (.int (a % n)) σ):wX Γ (.bin .Mod (.var x) (.lit (.int n))) ρ σ Q:=x_bin <| x_var g <| x_lit <| n_mod' hn h
noncomputable def kdOf (s:String):Kd:=if s = "LDR" then .ldr else if s = "LDB" then .ldb else if s = "STR" then .str else .stb
noncomputable def opOf (s:String):Op:=if s = "ADD" then .add else if s = "SUB" then .sub else if s = "MUL" then .mul else if s = "AND" then .and_ else if s = "XOR" then .xor else .lsl
theorem kd_l:∀ s ∈ ["LDR", "LDR", "LDB"], (kdOf s).nm = Str.ofString s ∧ (kdOf s).regd = false:=by decide +kernel
theorem kd_s:∀ s ∈ ["STR", "STR", "STB"], (kdOf s).nm = Str.ofString s ∧ (kdOf s).regd = false:=by decide +kernel
theorem op_f:∀ s ∈ ["ADD", "SUB", "MUL", "AND", "XOR", "LSL"], (opOf s).nm = Str.ofString s ∧ (opOf s).nmI = Str.ofString s ++ Str.ofString "I" ∧ (Str.ofString s).length = 3:=by decide +kernel
theorem ok_row_of (hd:Γ.fn "_law_draw" = some sp_draw) {vs:List V} {σ:Store} {Q:V → Store → Prop} (h:sp_row_of vs σ Q):wBody Γ ["row"] b__law_row_of vs σ Q:=by
 obtain ⟨d, rfl, D, hq⟩:=h
 refine body_intro rfl ?_
 generalize hρ:(Loc.set [] "row" (V.ref d)) = ρ
 have g:ρ.get "row" = some (.ref d):=hρ ▸ g_here
 unfold b__law_row_of
 refine s_assign <| drawX hd g D (by decide) fun kind σ1 k0 k1 D1 x1 => s_assign <| drawX hd (g_th g) D1 (by decide) fun a σ2 a0 a1 D2 x2 => s_assign <| drawX hd (g_th (g_th g)) D2 (by decide) fun b σ3 b0 b1 D3 x3 => ?_
 generalize hρ3:(((ρ.set "kind" (V.int kind)).set "first" (.int a)).set "second" (.int b)) = ρ3
 have l1:ρ3.get "kind" = some (.int kind):=hρ3 ▸ g_th (g_th g_here)
 have l2:ρ3.get "first" = some (.int a):=hρ3 ▸ g_th g_here
 have l3:ρ3.get "second" = some (.int b):=hρ3 ▸ g_here
 have l4:ρ3.get "row" = some (.ref d):=hρ3 ▸ g_th (g_th (g_th g))
 have a4:0 ≤ a % 4 ∧ a % 4 < 16:=mod_ok (by decide)
 have b7:0 ≤ b ∧ b < 16:=lt_of3 ⟨b0, b1⟩ (by decide)
 have z0:(0:Int) ≤ 0 ∧ (0:Int) < 16:=by decide
 have fin:∀ (r:Row) σ', r.Ok → Dr σ' d → ExtB d σ3 σ' → Q r.v σ':=fun r σ' h1 h2 h3 => hq r σ' h1 h2 (((x1.trans x2).trans x3).trans h3)
 refine ite_lt l1 (fun _ => mem_row (ss:=["LDR", "LDR", "LDB"]) (kd:=kdOf) hd (by decide) kd_l ⟨a0, a1⟩ ⟨b0, b1⟩ D3 l4 l2 l3 fun r σ' q1 q2 q3 => fin r σ' q1 q2 q3) fun c1 => ?_
 refine ite_lt l1 (fun _ => mem_row (ss:=["STR", "STR", "STB"]) (kd:=kdOf) hd (by decide) kd_s ⟨a0, a1⟩ ⟨b0, b1⟩ D3 l4 l2 l3 fun r σ' q1 q2 q3 => fin r σ' q1 q2 q3) fun c2 => ?_
 refine ite_eq l1 (fun _ => ?_) fun c3 => ?_
 ·refine s_ret <| x_tup <| xs_cons <| pick hd ["MOVI", "MOVH"] l4 D3 (by decide) fun s hs σ4 D4 x4 => xs_cons <| mod_lit (by decide) l2 <| xs_cons <| x_lit <| xs_cons <| drawX hd l4 D4 (by decide) fun v σ5 v0 v1 D5 x5 => xs_nil ?_
  rcases List.mem_cons.mp hs with rfl | hs
  ·exact fin (.ins .movi (a % 4) 0 v) σ5 (ok_ins a4 z0 (nof rfl) (nof rfl)) D5 (x4.trans x5)
  ·obtain rfl:=List.mem_singleton.mp hs
   exact fin (.ins .movh (a % 4) 0 v) σ5 (ok_ins a4 z0 (nof rfl) fun _ => lt_of3 ⟨v0, v1⟩ (by decide)) D5 (x4.trans x5)
 refine ite_eq l1 (fun _ => ?_) fun c4 => ?_
 ·refine s_ret <| x_tup <| xs_cons <| x_lit <| xs_cons <| pick hd ["EQ", "NE", "MI", "CS", "VS", "LT", "NV"] l4 D3 (by decide) fun s hs σ4 D4 x4 => xs_cons <| x_bin <| x_lit <| x_var l3 <| n_add <| xs_cons <| x_lit <| xs_nil ?_
  exact fin (.trap (Str.ofString s) (1 + b) 9) σ4 ⟨s, hs, rfl⟩ D4 x4
 refine ite_eq l1 (fun _ => ?_) fun c5 => ?_
 ·refine s_ret <| x_tup <| xs_cons <| x_lit <| xs_cons <| mod_lit (by decide) l2 <| xs_cons <| x_lit <| xs_cons <| x_lit <| xs_nil ?_
  exact fin (.ins .geth (a % 4) 0 0) σ3 (ok_ins a4 z0 (nof rfl) fun _ => z0) D3 ExtB.refl
 refine s_assign <| pick hd ["ADD", "SUB", "MUL", "AND", "XOR", "LSL"] l4 D3 (by decide) fun s hs σ4 D4 x4 => ?_
 have hop:=op_f s hs
 refine ite_eq (g_th l1) (fun _ => ?_) fun c6 => ?_
 ·refine s_ret <| x_tup <| xs_cons <| x_bin <| x_var g_here <| x_lit ⟨by rw [hop.2.2]; decide +kernel, xs_cons <| mod_lit (by decide) (g_th l2) <| xs_cons <| x_var (g_th l3) <| xs_cons <| drawX hd (g_th l4) D4 (by decide) fun v σ5 v0 v1 D5 x5 => xs_nil ?_⟩
  rw [← hop.2.1]
  exact fin (.ins (.opi (opOf s)) (a % 4) b v) σ5 (ok_ins a4 b7 (nof rfl) (nof rfl)) D5 (x4.trans x5)
 refine ite_eq (g_th l1) (fun _ => ?_) fun c7 => ?_
 ·refine s_ret <| x_tup <| xs_cons <| x_lit <| xs_cons <| mod_lit (by decide) (g_th l2) <| xs_cons <| x_lit <| xs_cons <| x_var (g_th l3) <| xs_nil ?_
  exact fin (.ins .mov (a % 4) 0 b) σ4 (ok_ins a4 z0 (nof rfl) fun _ => b7) D4 x4
 refine s_ret <| x_tup <| xs_cons <| x_var g_here <| xs_cons <| mod_lit (by decide) (g_th l2) <| xs_cons <| mod_lit (by decide) (g_th l3) <| xs_cons <| drawX hd (g_th l4) D4 (by decide) fun v σ5 v0 v1 D5 x5 => xs_nil ?_
 rw [← hop.1]
 exact fin (.ins (.op (opOf s)) (a % 4) (b % 4) v) σ5 (ok_ins a4 (mod_ok (by decide)) (nof rfl) fun _ => lt_of3 ⟨v0, v1⟩ (by decide)) D5 (x4.trans x5)
end
end Mini
end
section
namespace Mini
open PySem PySem.W PyProof.Rows
noncomputable def lfound (nm:Str) (x y:Int):Int:=if nm = "MOV" then y else alu nm x y
noncomputable def lcarry (nm:Str) (x y:Int):Int:=if nm = "ADD" then (x + y) / 4294967296 else if nm = "SUB" then (if x < y then 1 else 0) else 0
noncomputable def inHalf (z:Int):Int:=if -2147483648 ≤ z ∧ z < 2147483648 then 0 else 1
noncomputable def lover (nm:Str) (x y:Int):Int:=if nm = "ADD" then inHalf (sgn x + sgn y) else if nm = "SUB" then inHalf (sgn x - sgn y) else if nm = "MUL" then inHalf (sgn x * sgn y) else 0
noncomputable def lhigh (nm:Str) (x y:Int):Option Int:=if nm = "MUL" then some ((sgn x * sgn y) / 4294967296 % 4294967296) else none
noncomputable def lflags (nm:Str) (x y:Int):Int × Int × Int × Int:=(lfound nm x y / 2147483648, if lfound nm x y = 0 then 1 else 0, lcarry nm x y, lover nm x y)
noncomputable def flV (f:Int × Int × Int × Int):List V:=[.int f.1, .int f.2.1, .int f.2.2.1, .int f.2.2.2]
noncomputable def sp_calc:Spec:=fun vs σ Q => ∃ nm x y, vs = [.str nm, .int x, .int y] ∧ (nm = Str.ofString "MOV" ∨ OpNm nm) ∧ Rg x ∧ Rg y ∧ ∀ f σ', σ f = none → σ' f = some (.list (flV (lflags nm x y))) → Ext σ σ' → Q (.tup [.int (lfound nm x y), .ref f, optV (lhigh nm x y)]) σ'
section
variable {σ σ':Store} {Γ:GE}
theorem half2 {Q:V → Store → Prop} {ρ:Loc} (g:ρ.get "word" = some (.int 4294967296)) (h:Q (.int 2147483648) σ):wX Γ (.bin .FloorDiv (.var "word") (.lit (.int (2)))) ρ σ Q :=
 x_bin <| x_var g <| x_lit <| n_div' (by decide) h
theorem mhalf2 {Q:V → Store → Prop} {ρ:Loc} (g:ρ.get "word" = some (.int 4294967296)) (h:Q (.int (-2147483648)) σ):wX Γ (.bin .FloorDiv (.neg (.var "word")) (.lit (.int (2)))) ρ σ Q :=
 x_bin ⟨_, g, _, rfl, x_lit <| n_div' (by decide) h⟩
theorem calc_post {ρ:Loc} {r c o:Int} {hv:V} {K:V → Store → Prop} (g1:ρ.get "found" = some (.int r)) (g2:ρ.get "word" = some (.int 4294967296)) (g3:ρ.get "carry" = some (.int c)) (g4:ρ.get "over" = some (.int o)) (g5:ρ.get "high" = some hv)
  (h:∀ f, σ f = none → K (.tup [.int (r % 4294967296), .ref f, hv]) (σ.set f (.list [.int (r % 4294967296 / 2147483648), .int (if r % 4294967296 = 0 then 1 else 0), .int c, .int o]))) :
  wSs Γ [.assign "found" (.bin .Mod (.var "found") (.var "word")), .ret (.tup [(.var "found"), (.list [(.bin .FloorDiv (.var "found") (.bin .FloorDiv (.var "word") (.lit (.int (2))))), (.ite (.cmp .Eq (.var "found") (.lit (.int (0)))) (.lit (.int (1))) (.lit (.int (0)))), (.var "carry"), (.var "over")]), (.var "high")])] ρ σ (RetK K):=by
 refine s_assign <| x_bin <| x_var g1 <| x_var g2 <| n_mod' (by decide) <| s_ret <| x_tup <| xs_cons <| x_var g_here <| xs_cons <| x_list <| xs_cons <| x_bin <| x_var g_here <| half2 (g_th g2) <| n_div' (by decide) <| xs_cons <| x_ite <| t_cmp <| x_var g_here <| x_lit <| c_eqi <| ifD (fun q => ?_) fun q => ?_
 ·rw [if_pos q] at h
  exact x_lit <| xs_cons <| x_var (g_th g3) <| xs_cons <| x_var (g_th g4) <| xs_nil fun f hf => xs_cons <| x_var (g_th g5) <| xs_nil <| h f hf
 ·rw [if_neg q] at h
  exact x_lit <| xs_cons <| x_var (g_th g3) <| xs_cons <| x_var (g_th g4) <| xs_nil fun f hf => xs_cons <| x_var (g_th g5) <| xs_nil <| h f hf
theorem sgn_step {x:String} {t:String} {i:Int} {ρ:Loc} {r:List Mini.S} {K:Fl → Loc → Store → Prop} (g1:ρ.get x = some (.int i)) (g2:ρ.get "word" = some (.int 4294967296)) (h:wSs Γ r (ρ.set t (.int (sgn i))) σ K) :
  wSs Γ (.assign t (.ite (.cmp .GtE (.var x) (.bin .FloorDiv (.var "word") (.lit (.int (2))))) (.bin .Sub (.var x) (.var "word")) (.var x)) :: r) ρ σ K:=by
 unfold sgn at h
 refine s_assign <| x_ite <| t_cmp <| x_var g1 <| half2 g2 <| c_ge <| ifD (fun q => x_bin <| x_var g1 <| x_var g2 <| n_sub ?_) fun q => x_var g1 ?_
 ·rw [if_pos q] at h; exact h
 ·rw [if_neg q] at h; exact h
theorem over_step {a:X} {z:Int} {ρ:Loc} {r:List Mini.S} {K:Fl → Loc → Store → Prop} (g2:ρ.get "word" = some (.int 4294967296)) (ha:∀ Q:V → Store → Prop, Q (.int z) σ → wX Γ a ρ σ Q) (h:wSs Γ r (ρ.set "over" (.int (inHalf z))) σ K) :
  wSs Γ (.assign "over" (.ite (.chain (.bin .FloorDiv (.neg (.var "word")) (.lit (.int (2)))) .LtE a .Lt (.bin .FloorDiv (.var "word") (.lit (.int (2))))) (.lit (.int (0))) (.lit (.int (1)))) :: r) ρ σ K:=by
 unfold inHalf at h
 refine s_assign <| x_ite ?_
 show wX Γ (.bin .FloorDiv (.neg (.var "word")) (.lit (.int (2)))) ρ σ _
 refine mhalf2 g2 <| ha _ <| c_le <| ifD (fun q => half2 g2 <| c_lt ?_) fun q => ifF rfl ?_
 ·by_cases q2:z < 2147483648
  ·rw [if_pos ⟨q, q2⟩] at h
   exact ifT (decide_eq_true q2) h
  ·rw [if_neg fun z => q2 z.2] at h
   exact ifF (decide_eq_false q2) h
 ·rw [if_neg fun z => q z.1] at h; exact h
noncomputable def calcTails:List Mini.S:=[.assign "found" (.bin .Mod (.var "found") (.var "word")), .ret (.tup [(.var "found"), (.list [(.bin .FloorDiv (.var "found") (.bin .FloorDiv (.var "word") (.lit (.int (2))))), (.ite (.cmp .Eq (.var "found") (.lit (.int (0)))) (.lit (.int (1))) (.lit (.int (0)))), (.var "carry"), (.var "over")]), (.var "high")])]
theorem name_ite {nm:Str} {t:String} {ys zs r:List Mini.S} {ρ:Loc} {K:Fl → Loc → Store → Prop} (g:ρ.get "name" = some (.str nm)) (h1:nm = Str.ofString t → wSs Γ ys ρ σ (seqK Γ r K)) (h2:nm ≠ Str.ofString t → wSs Γ zs ρ σ (seqK Γ r K)):wSs Γ (.ite (.cmp .Eq (.var "name") (.lit (.str (Str.ofString t)))) ys zs :: r) ρ σ K :=
 s_ite <| t_cmp <| x_var g <| x_lit <| c_eqs <| ifD h1 h2
end
end Mini
end
section
namespace Mini
open PySem PySem.W PyProof.Rows
section
variable {σ σ':Store} {Γ:GE}
theorem rg_abs {x:Int} (h:Rg x):x.natAbs < 2 ^ 64:=by obtain ⟨h0, h1⟩:=h; omega
noncomputable def opNames:List String:=["ADD", "SUB", "MUL", "AND", "XOR", "LSL"]
theorem op_mem {nm:Str} (h:OpNm nm):∃ o ∈ opNames, nm = Str.ofString o:=by
 rcases h with q | q | q | q | q | q
 ·exact ⟨_, .head _, q⟩
 ·exact ⟨_, .tail _ (.head _), q⟩
 ·exact ⟨_, .tail _ (.tail _ (.head _)), q⟩
 ·exact ⟨_, .tail _ (.tail _ (.tail _ (.tail _ (.tail _ (.head _))))), q⟩
 ·exact ⟨_, .tail _ (.tail _ (.tail _ (.head _))), q⟩
 ·exact ⟨_, .tail _ (.tail _ (.tail _ (.tail _ (.head _)))), q⟩
theorem nn {a b:String} (h:a ≠ b:=by decide):Str.ofString a ≠ Str.ofString b:=fun z => h (ofString_inj.mp z)
section
variable {x y:Int}
theorem m_add:(x + y) % 4294967296 = lfound (Str.ofString "ADD") x y ∧ (x + y) / 4294967296 = lcarry (Str.ofString "ADD") x y ∧ inHalf (sgn x + sgn y) = lover (Str.ofString "ADD") x y ∧ V.none = optV (lhigh (Str.ofString "ADD") x y):=by
 refine ⟨?_, ?_, ?_, ?_⟩
 ·unfold lfound; rw [if_neg nn]; unfold alu; rw [if_pos rfl]; rfl
 ·unfold lcarry; rw [if_pos rfl]
 ·unfold lover; rw [if_pos rfl]
 ·unfold lhigh; rw [if_neg nn]; rfl
theorem m_sub:(x - y) % 4294967296 = lfound (Str.ofString "SUB") x y ∧ (if x < y then 1 else 0) = lcarry (Str.ofString "SUB") x y ∧ inHalf (sgn x - sgn y) = lover (Str.ofString "SUB") x y ∧ V.none = optV (lhigh (Str.ofString "SUB") x y):=by
 refine ⟨?_, ?_, ?_, ?_⟩
 ·unfold lfound; rw [if_neg nn]; unfold alu; rw [if_neg nn, if_pos rfl]; rfl
 ·unfold lcarry; rw [if_neg nn, if_pos rfl]
 ·unfold lover; rw [if_neg nn, if_pos rfl]
 ·unfold lhigh; rw [if_neg nn]; rfl
theorem m_mul:(sgn x * sgn y) % 4294967296 = lfound (Str.ofString "MUL") x y ∧ (0:Int) = lcarry (Str.ofString "MUL") x y ∧ inHalf (sgn x * sgn y) = lover (Str.ofString "MUL") x y ∧ V.int (sgn x * sgn y / 4294967296 % 4294967296) = optV (lhigh (Str.ofString "MUL") x y):=by
 refine ⟨?_, ?_, ?_, ?_⟩
 ·unfold lfound; rw [if_neg nn]; unfold alu; rw [if_neg nn, if_neg nn, if_pos rfl]; rfl
 ·unfold lcarry; rw [if_neg nn, if_neg nn]
 ·unfold lover; rw [if_neg nn, if_neg nn, if_pos rfl]
 ·unfold lhigh; rw [if_pos rfl]; rfl
theorem m_rest {nm:Str} (n1:nm ≠ Str.ofString "ADD") (n2:nm ≠ Str.ofString "SUB") (n3:nm ≠ Str.ofString "MUL"):(0:Int) = lcarry nm x y ∧ (0:Int) = lover nm x y ∧ V.none = optV (lhigh nm x y):=by
 refine ⟨?_, ?_, ?_⟩
 ·unfold lcarry; rw [if_neg n1, if_neg n2]
 ·unfold lover; rw [if_neg n1, if_neg n2, if_neg n3]
 ·unfold lhigh; rw [if_neg n3]; rfl
theorem five_get {v1 v2 v3 v4 v5 w:V} {nm:Str} {K:V → Store → Prop} {b:Addr} (e:σ b = some (.dict ([(Key.one (.str "AND"), v1), (Key.one (.str "ANN"), v2), (Key.one (.str "IOR"), v3), (Key.one (.str "XOR"), v4), (Key.one (.str "MOV"), v5)].foldl (fun d (e:Key × V) => aset d e.1 e.2) [])))
  (g:aget [(Key.one (.str "AND"), v1), (Key.one (.str "ANN"), v2), (Key.one (.str "IOR"), v3), (Key.one (.str "XOR"), v4), (Key.one (.str "MOV"), v5)] (.one (.str nm)) = some w) (q:K w σ):getItemW (.ref b) (.str nm) σ K:=by
 unfold getItemW
 dsimp only
 rw [e]
 refine ⟨_, _, rfl, fun e he => ?_, g, q⟩
 have he:e ∈ [(Key.one (.str "AND"), v1), (Key.one (.str "ANN"), v2), (Key.one (.str "IOR"), v3), (Key.one (.str "XOR"), v4), (Key.one (.str "MOV"), v5)]:=he
 rcases List.mem_cons.mp he with rfl | he
 ·rfl
 rcases List.mem_cons.mp he with rfl | he
 ·rfl
 rcases List.mem_cons.mp he with rfl | he
 ·rfl
 rcases List.mem_cons.mp he with rfl | he
 ·rfl
 ·rw [List.mem_singleton.mp he]; rfl
end
theorem ok_calc {vs:List V} {σ:Store} {Q:V → Store → Prop} (h:sp_calc vs σ Q):wBody Γ ["name", "x", "y"] b__law_calculated vs σ Q:=by
 obtain ⟨nm, x, y, rfl, hn, hx, hy, hq⟩:=h
 refine body_intro rfl ?_
 generalize hρ:(((Loc.set [] "name" (V.str nm)).set "x" (.int x)).set "y" (.int y)) = ρ
 have g1:ρ.get "name" = some (.str nm):=hρ ▸ g_th (g_th g_here)
 have g2:ρ.get "x" = some (.int x):=hρ ▸ g_th g_here
 have g3:ρ.get "y" = some (.int y):=hρ ▸ g_here
 unfold b__law_calculated
 refine s_assign <| x_lit <| sgn_step (i:=x) (g_th g2) g_here <| sgn_step (i:=y) (g_th (g_th g3)) (g_th g_here) <| s_assign <| x_lit <| s_assign <| x_lit <| s_assign <| x_lit ?_
 generalize hρ1:((((((ρ.set "word" (V.int 4294967296)).set "sx" (.int (sgn x))).set "sy" (.int (sgn y))).set "carry" (.int 0)).set "over" (.int 0)).set "high" .none) = ρ1
 have l1:ρ1.get "name" = some (.str nm):=hρ1 ▸ g_th (g_th (g_th (g_th (g_th (g_th g1)))))
 have l2:ρ1.get "x" = some (.int x):=hρ1 ▸ g_th (g_th (g_th (g_th (g_th (g_th g2)))))
 have l3:ρ1.get "y" = some (.int y):=hρ1 ▸ g_th (g_th (g_th (g_th (g_th (g_th g3)))))
 have l4:ρ1.get "word" = some (.int 4294967296):=hρ1 ▸ g_th (g_th (g_th (g_th (g_th g_here))))
 have l5:ρ1.get "sx" = some (.int (sgn x)):=hρ1 ▸ g_th (g_th (g_th (g_th g_here)))
 have l6:ρ1.get "sy" = some (.int (sgn y)):=hρ1 ▸ g_th (g_th (g_th g_here))
 have l7:ρ1.get "carry" = some (.int 0):=hρ1 ▸ g_th (g_th g_here)
 have l8:ρ1.get "over" = some (.int 0):=hρ1 ▸ g_th g_here
 have l9:ρ1.get "high" = some .none:=hρ1 ▸ g_here
 have ax:=sgn_abs hx
 have post:∀ (ρ':Loc) (σ':Store) (r c o:Int) (hv:V), Ext σ σ' → ρ'.get "word" = some (.int 4294967296) → ρ'.get "found" = some (.int r) → ρ'.get "carry" = some (.int c) → ρ'.get "over" = some (.int o) → ρ'.get "high" = some hv → r % 4294967296 = lfound nm x y ∧ c = lcarry nm x y ∧ o = lover nm x y ∧ hv = optV (lhigh nm x y) → wSs Γ calcTails ρ' σ' (RetK Q):=by
  intro ρ' σ' r c o hv ex a1 a2 a3 a4 a5 ⟨e1, e2, e3, e4⟩
  refine calc_post a2 a1 a3 a4 a5 fun f hf => ?_
  rw [e1, e2, e3, e4]
  exact hq f _ (by cases q:σ f with | none => rfl | some o => rw [ex _ _ q] at hf; exact nomatch hf) set_eq (ex.trans (Ext.new hf))
 refine name_ite l1 (fun e => ?_) fun n1 => ?_
 ·refine s_assign <| x_bin <| x_var l2 <| x_var l3 <| n_add <| s_assign <| x_bin <| x_var g_here <| x_var (g_th l4) <| n_div' (by decide) <| over_step (z:=sgn x + sgn y) (g_th (g_th l4)) (fun Q hQ => x_bin <| x_var (g_th (g_th l5)) <| x_var (g_th (g_th l6)) <| n_add hQ) <| s_nil ?_
  exact post _ σ (x + y) ((x + y) / 4294967296) (inHalf (sgn x + sgn y)) .none (Ext.refl _) (g_th (g_th (g_th l4))) (g_th (g_th g_here)) (g_th g_here) g_here (g_th (g_th (g_th l9))) (by rw [e]; exact m_add)
 refine name_ite l1 (fun e => ?_) fun n2 => ?_
 ·have rest:∀ c:Int, c = lcarry (Str.ofString "SUB") x y → wSs Γ [.assign "over" (.ite (.chain (.bin .FloorDiv (.neg (.var "word")) (.lit (.int (2)))) .LtE (.bin .Sub (.var "sx") (.var "sy")) .Lt (.bin .FloorDiv (.var "word") (.lit (.int (2))))) (.lit (.int (0))) (.lit (.int (1))))] ((ρ1.set "found" (.int (x - y))).set "carry" (.int c)) σ (seqK Γ [] (seqK Γ calcTails (RetK Q))):=by
   intro c hc
   refine over_step (z:=sgn x - sgn y) (g_th (g_th l4)) (fun Q hQ => x_bin <| x_var (g_th (g_th l5)) <| x_var (g_th (g_th l6)) <| n_sub hQ) <| s_nil ?_
   exact post _ σ (x - y) c (inHalf (sgn x - sgn y)) .none (Ext.refl _) (g_th (g_th (g_th l4))) (g_th (g_th g_here)) (g_th g_here) g_here (g_th (g_th (g_th l9))) (by rw [e]; exact ⟨m_sub.1, hc, m_sub.2.2.1, m_sub.2.2.2⟩)
  have hc:=(m_sub (x:=x) (y:=y)).2.1
  refine s_assign <| x_bin <| x_var l2 <| x_var l3 <| n_sub <| s_assign <| x_ite <| t_cmp <| x_var (g_th l2) <| x_var (g_th l3) <| c_lt <| ifD (fun q => x_lit <| rest 1 ?_) fun q => x_lit <| rest 0 ?_
  ·rw [if_pos q] at hc; exact hc
  ·rw [if_neg q] at hc; exact hc
 refine name_ite l1 (fun e => ?_) fun n3 => ?_
 ·refine s_assign <| x_bin <| x_var l5 <| x_var l6 <| n_mul (.inl ax) <| over_step (z:=sgn x * sgn y) (g_th l4) (fun Q hQ => x_var g_here hQ) <| s_assign <| x_bin <| x_bin <| x_var (g_th g_here) <| x_var (g_th (g_th l4)) <| n_div' (by decide) <| x_var (g_th (g_th l4)) <| n_mod' (by decide) <| s_nil ?_
  exact post _ σ (sgn x * sgn y) 0 (inHalf (sgn x * sgn y)) _ (Ext.refl _) (g_th (g_th (g_th l4))) (g_th (g_th g_here)) (g_th (g_th (g_th l7))) (g_th g_here) g_here (by rw [e]; exact m_mul)
 have mr:=m_rest (x:=x) (y:=y) n1 n2 n3
 refine name_ite l1 (fun e => ?_) fun n4 => ?_
 ·have ym:=Int.emod_nonneg y (show (32:Int) ≠ 0 by decide)
  have yl:=Int.emod_lt_of_pos y (show (0:Int) < 32 by decide)
  refine s_assign <| x_bin <| x_var l2 <| x_bin <| x_lit <| x_bin <| x_var l3 <| x_lit <| n_mod' (by decide) <| n_pow ⟨ym, Int.le_trans (Int.le_of_lt yl) (by decide), by decide⟩ <| n_mul (.inl (rg_abs hx)) <| s_nil ?_
  refine post _ σ _ 0 0 .none (Ext.refl _) (g_th l4) g_here (g_th l7) (g_th l8) (g_th l9) ⟨?_, mr⟩
  rw [e]; unfold lfound; rw [if_neg nn]; unfold alu; rw [if_neg nn, if_neg nn, if_neg nn, if_pos rfl]; rfl
 refine name_ite l1 (fun e => ?_) fun n5 => ?_
 ·exfalso
  rw [e] at hn
  rcases hn with q | q
  ·exact absurd q nn
  ·obtain ⟨o, ho, q⟩:=op_mem q
   have:∀ o ∈ opNames, Str.ofString "ASR" ≠ Str.ofString o:=by decide +kernel
   exact this o ho q
 ·have three:nm = Str.ofString "MOV" ∨ nm = Str.ofString "AND" ∨ nm = Str.ofString "XOR":=by
   rcases hn with q | q | q | q | q | q | q
   ·exact .inl q
   ·exact absurd q n1
   ·exact absurd q n2
   ·exact absurd q n3
   ·exact absurd q n4
   ·exact .inr (.inl q)
   ·exact .inr (.inr q)
  have fin:∀ (r:Int) τ, Ext σ τ → r % 4294967296 = lfound nm x y → wSs Γ calcTails (ρ1.set "found" (.int r)) τ (RetK Q):=fun r τ ex hr =>
   post _ τ r 0 0 .none ex (g_th l4) g_here (g_th l7) (g_th l8) (g_th l9) ⟨hr, mr⟩
  have pk:∀ {a b c d:Int} {r:Int} {bb:Addr}, σ bb = none → aget [(Key.one (.str "AND"), V.int a), (Key.one (.str "ANN"), V.int b), (Key.one (.str "IOR"), V.int c), (Key.one (.str "XOR"), V.int d), (Key.one (.str "MOV"), V.int y)] (.one (.str nm)) = some (.int r) → r % 4294967296 = lfound nm x y →
    getItemW (.ref bb) (.str nm) (σ.set bb (.dict ([(Key.one (.str "AND"), V.int a), (Key.one (.str "ANN"), V.int b), (Key.one (.str "IOR"), V.int c), (Key.one (.str "XOR"), V.int d), (Key.one (.str "MOV"), V.int y)].foldl (fun d (e:Key × V) => aset d e.1 e.2) []))) fun v τ => wSs Γ [] (ρ1.set "found" v) τ (seqK Γ [] (seqK Γ [] (seqK Γ [] (seqK Γ [] (seqK Γ calcTails (RetK Q)))))) :=
   fun hb g hr => five_get set_eq g (fin _ _ (Ext.new hb) hr)
  refine s_assign <| x_sub <| x_dict ?_
  refine x_bin <| x_var l2 <| x_var l3 <| n_and <| x_bin <| x_var l2 <| x_bin <| x_bin <| x_var l4 <| x_lit <| n_sub <| x_var l3 <| n_sub <| n_and <| x_bin <| x_var l2 <| x_var l3 <| n_or <| x_bin <| x_var l2 <| x_var l3 <| n_xor <| x_var l3 fun b hb => x_var l1 ?_
  rcases three with e | e | e
  ·refine pk hb (by rw [e]; rfl) ?_
   rw [e]; unfold lfound; rw [if_pos rfl]; exact Int.emod_eq_of_lt hy.1 hy.2
  ·refine pk hb (by rw [e]; rfl) ?_
   have q:=and_rg hx hy
   rw [e]; unfold lfound; rw [if_neg nn]; unfold alu; rw [if_neg nn, if_neg nn, if_neg nn, if_neg nn, if_pos rfl]
   exact Int.emod_eq_of_lt q.1 q.2
  ·refine pk hb (by rw [e]; rfl) ?_
   have q:=xor_rg hx hy
   rw [e]; unfold lfound; rw [if_neg nn]; unfold alu; rw [if_neg nn, if_neg nn, if_neg nn, if_neg nn, if_neg nn]
   exact Int.emod_eq_of_lt q.1 q.2
end
end Mini
end
section
namespace Mini
open PySem PySem.W PyProof.Rows
structure St where
 regs:Int → Int
 mem:Int → Int
 flags:Int × Int × Int × Int
 high:Int
noncomputable def updF (f:Int → Int) (x v:Int):Int → Int:=fun y => if x = y then v else f y
noncomputable def wordN (m:Int → Int) (p:Int) (n:Nat):Int:=((List.range n).map fun (j:Nat) => m (p + j) * 256 ^ j).sum
noncomputable def putN (m:Int → Int) (p v:Int):Nat → Int → Int
 | 0 => m
 | n + 1 => updF (putN m p v n) (p + n) (v / 256 ^ n % 256)
noncomputable def Kd.pn:Kd → Str
 | .op o => o.nm | .opi o => o.nm | _ => "MOV"
noncomputable def Kd.isI:Kd → Bool
 | .movi => true | .opi _ => true | _ => false
noncomputable def St.right (s:St) (k:Kd) (d:Int):Int:=match k with
 | .movh => d * 65536
 | .geth => s.high
 | k => if k.isI = true then d % 4294967296 else s.regs d
noncomputable def St.calc (s:St) (nm:Str) (a x y:Int):St:=⟨updF s.regs a (lfound nm x y), s.mem, lflags nm x y, (lhigh nm x y).getD s.high⟩
noncomputable def St.spot (s:St) (b d:Int):Int:=(s.regs b + d) % 4294967296
noncomputable def St.step (s:St) (k:Kd) (a b d:Int):St:=match k with
 | .ldr => { s with regs:=updF s.regs a (wordN s.mem (s.spot b d) 4) }
 | .ldb => { s with regs:=updF s.regs a (wordN s.mem (s.spot b d) 1) }
 | .str => { s with mem:=putN s.mem (s.spot b d) (s.regs a) 4 }
 | .stb => { s with mem:=putN s.mem (s.spot b d) (s.regs a) 1 }
 | k => s.calc k.pn a (s.regs b) (s.right k d)
structure St.Good (s:St):Prop where
 regs:∀ r, 0 ≤ r → r < 16 → Rg (s.regs r)
 mem:∀ x, 0 ≤ s.mem x ∧ s.mem x < 256
 high:Rg s.high
structure SA where
 p:Addr
 r:Addr
 m:Addr
 f:Addr
noncomputable def SA.all (A:SA):List Addr:=[A.p, A.r, A.m, A.f]
noncomputable def kS (s:String):Key:=.one (.str (Str.ofString s))
noncomputable def stD (A:SA) (h:Int):List (Key × V):=[(kS "regs", .ref A.r), (kS "bytes", .ref A.m), (kS "flags", .ref A.f), (kS "high", .int h)]
noncomputable def rgV (f:Int → Int):List V:=(List.range 16).map fun (i:Nat) => V.int (f i)
structure ByK (m:Int → Int) (B:Nat) (es:List (Key × V)):Prop where
 ex:∃ g, MapK kI g B es ∧ ∀ x, (g x).getD 0 = m x
 nd:(es.map (·.1)).Nodup
structure IsSt (σ:Store) (A:SA) (s:St) (B:Nat):Prop where
 st:σ A.p = some (.dict (stD A s.high))
 rg:σ A.r = some (.list (rgV s.regs))
 by_:∃ es, σ A.m = some (.dict es) ∧ ByK s.mem B es
 fl:σ A.f = some (.list (flV s.flags))
 nd:A.all.Nodup
structure KeepS (A A':SA) (σ σ':Store):Prop where
 keep:∀ b o, σ b = some o → b ∉ A.all → σ' b = some o
 foot:∀ b, (σ b).isSome = true → b ∉ A.all → b ∉ A'.all
theorem KeepS.refl (A:SA) (σ:Store):KeepS A A σ σ:=⟨fun _ _ e _ => e, fun _ _ h => h⟩
theorem KeepS.trans {A A' A'':SA} {σ σ' σ'':Store} (h:KeepS A A' σ σ') (h':KeepS A' A'' σ' σ''):KeepS A A'' σ σ'' :=
 ⟨fun b o e n => h'.keep b o (h.keep b o e n) (h.foot b (by rw [e]; rfl) n), fun b s n => by
  obtain ⟨o, e⟩:=Option.isSome_iff_exists.mp s
  exact h'.foot b (by rw [h.keep b o e n]; rfl) (h.foot b s n)⟩
theorem KeepS.new {A:SA} {σ:Store} {b:Addr} {o:MObj} (h:σ b = none):KeepS A A σ (σ.set b o) :=
 ⟨fun x o' e n => by rw [set_ne (fun z => by subst z; rw [h] at e; cases e)]; exact e, fun _ _ h => h⟩
theorem KeepS.set {A:SA} {σ:Store} {b:Addr} {o:MObj} (h:b ∈ A.all):KeepS A A σ (σ.set b o) :=
 ⟨fun x o' e n => by rw [set_ne (fun z:x = b => n (by rw [z]; exact h))]; exact e, fun _ _ h => h⟩
section
variable {σ σ':Store} {A:SA} {s:St} {B:Nat} {Γ:GE}
theorem SA.ne (h:A.all.Nodup):A.p ≠ A.r ∧ A.p ≠ A.m ∧ A.p ≠ A.f ∧ A.r ≠ A.m ∧ A.r ≠ A.f ∧ A.m ≠ A.f:=by
 simp only [SA.all, List.nodup_cons, List.mem_cons, not_or, List.not_mem_nil, not_false_eq_true, List.nodup_nil, and_true] at h
 obtain ⟨⟨a1, a2, a3⟩, ⟨b1, b2⟩, c1⟩:=h
 exact ⟨a1, a2, a3, b1, b2, c1⟩
theorem IsSt.there (h:IsSt σ A s B):∀ b ∈ A.all, (σ b).isSome = true:=by
 intro b hb
 simp only [SA.all, List.mem_cons, List.not_mem_nil, or_false] at hb
 obtain ⟨es, e, _⟩:=h.by_
 rcases hb with rfl | rfl | rfl | rfl
 ·rw [h.st]; rfl
 ·rw [h.rg]; rfl
 ·rw [e]; rfl
 ·rw [h.fl]; rfl
theorem IsSt.frame (h:IsSt σ A s B) (e:∀ b ∈ A.all, σ' b = σ b):IsSt σ' A s B:=by
 have m:A.p ∈ A.all ∧ A.r ∈ A.all ∧ A.m ∈ A.all ∧ A.f ∈ A.all:=⟨.head _, .tail _ (.head _), .tail _ (.tail _ (.head _)), .tail _ (.tail _ (.tail _ (.head _)))⟩
 exact ⟨by rw [e _ m.1]; exact h.st, by rw [e _ m.2.1]; exact h.rg, by rw [e _ m.2.2.1]; exact h.by_, by rw [e _ m.2.2.2]; exact h.fl, h.nd⟩
theorem IsSt.new (h:IsSt σ A s B) {b:Addr} {o:MObj} (hb:σ b = none):IsSt (σ.set b o) A s B:=h.frame fun y hy => set_ne fun z => by have:=h.there y hy; rw [z, hb] at this; cases this
theorem IsSt.nin (h:IsSt σ A s B) {b:Addr} (hb:σ b = none):b ∉ A.all:=fun z => by have:=h.there b z; rw [hb] at this; cases this
theorem IsSt.up (h:IsSt σ A s B) {B':Nat} (l:B ≤ B'):IsSt σ A s B':=⟨h.st, h.rg, let ⟨es, e, ⟨g, m, q⟩, n⟩:=h.by_; ⟨es, e, ⟨g, m.up l, q⟩, n⟩, h.fl, h.nd⟩
theorem stD_tp {h:Int}:∀ e ∈ stD A h, e.1.isTp = false:=by intro e he; simp only [stD, List.mem_cons, List.not_mem_nil, or_false] at he; rcases he with rfl | rfl | rfl | rfl <;> rfl
theorem st_get {x:Str} {v:V} {Q:V → Store → Prop} (e:σ A.p = some (.dict (stD A s.high))) (g:aget (stD A s.high) (.one (.str x)) = some v) (q:Q v σ):getItemW (.ref A.p) (.str x) σ Q:=by
 unfold getItemW
 dsimp only
 rw [e]
 exact ⟨.one (.str x), v, rfl, fun en he => by rw [stD_tp en he]; rfl, g, q⟩
theorem st_regs {h:Int}:aget (stD A h) (.one (.str (Str.ofString "regs"))) = some (.ref A.r):=rfl
theorem st_bytes {h:Int}:aget (stD A h) (.one (.str (Str.ofString "bytes"))) = some (.ref A.m):=rfl
theorem st_flags {h:Int}:aget (stD A h) (.one (.str (Str.ofString "flags"))) = some (.ref A.f):=rfl
theorem st_high {h:Int}:aget (stD A h) (.one (.str (Str.ofString "high"))) = some (.int h):=rfl
theorem st_set {x:Str} {v:V} {Q:Store → Prop} (e:σ A.p = some (.dict (stD A s.high))) (q:Q (σ.set A.p (.dict (aset (stD A s.high) (.one (.str x)) v)))):setItemW (.ref A.p) (.str x) v σ Q:=by
 unfold setItemW
 dsimp only
 rw [e]
 exact ⟨.one (.str x), rfl, fun en he => by rw [stD_tp en he]; rfl, (show 4 ≤ 100000 by decide), q⟩
theorem rg_len {f:Int → Int}:(rgV f).length = 16:=by unfold rgV; rw [List.length_map, List.length_range]
theorem rg_at {f:Int → Int} {j:Nat} (h:j < 16):(rgV f)[j]? = some (.int (f j)):=by unfold rgV; rw [List.getElem?_map, List.getElem?_range h]; rfl
theorem reg_get {r:Addr} {f:Int → Int} {x:Int} {Q:V → Store → Prop} (e:σ r = some (.list (rgV f))) (h0:0 ≤ x) (h1:x < 16) (q:Q (.int (f x)) σ):getItemW (.ref r) (.int x) σ Q:=by
 obtain ⟨j, rfl, hj⟩:=of_nat (n:=16) h0 h1
 exact lst_at e (by rw [rg_len]; decide) (rg_at hj) q
theorem reg_set {r:Addr} {f:Int → Int} {x v:Int} {Q:Store → Prop} (e:σ r = some (.list (rgV f))) (h0:0 ≤ x) (h1:x < 16) (q:Q (σ.set r (.list (rgV (updF f x v))))):setItemW (.ref r) (.int x) (.int v) σ Q:=by
 obtain ⟨j, rfl, hj⟩:=of_nat (n:=16) h0 h1
 refine lst_set e (j:=j) rfl (by rw [rg_len]; decide) (by rw [rg_len]; exact hj) ?_
 have:(rgV f).set j (.int v) = rgV (updF f j v):=by
  refine List.ext_getElem? fun i => ?_
  rw [List.getElem?_set, rg_len]
  by_cases hi:i < 16
  ·rw [rg_at hi, rg_at hi, updF]
   by_cases hx:j = i
   ·rw [if_pos hx, if_pos hj, if_pos (by rw [hx])]
   ·rw [if_neg hx, if_neg fun z:(j:Int) = i => hx (Int.ofNat.inj z)]
  ·rw [List.getElem?_eq_none (by rw [rg_len]; exact Nat.le_of_not_lt hi), List.getElem?_eq_none (by rw [rg_len]; exact Nat.le_of_not_lt hi), if_neg fun z:j = i => hi (z ▸ hj)]
 rw [this]; exact q
theorem IsSt.setRegs (h:IsSt σ A s B) {f:Int → Int}:IsSt (σ.set A.r (.list (rgV f))) A { s with regs:=f } B:=by
 obtain ⟨a1, a2, a3, b1, b2, c1⟩:=SA.ne h.nd
 obtain ⟨es, e, m⟩:=h.by_
 exact ⟨by rw [set_ne a1]; exact h.st, set_eq, ⟨es, by rw [set_ne b1.symm]; exact e, m⟩, by rw [set_ne b2.symm]; exact h.fl, h.nd⟩
theorem IsSt.setMem (h:IsSt σ A s B) {m:Int → Int} {es:List (Key × V)} {B':Nat} (hm:ByK m B' es):IsSt (σ.set A.m (.dict es)) A { s with mem:=m } B':=by
 obtain ⟨a1, a2, a3, b1, b2, c1⟩:=SA.ne h.nd
 exact ⟨by rw [set_ne a2]; exact h.st, by rw [set_ne b1]; exact h.rg, ⟨es, set_eq, hm⟩, by rw [set_ne c1.symm]; exact h.fl, h.nd⟩
theorem aset_keys {es:List (Key × V)} {k:Key} {v:V} (h:(es.map (·.1)).Nodup):((aset es k v).map (·.1)).Nodup:=by
 unfold aset
 split
 ·have:(es.map fun e => if e.1 = k then (e.1, v) else e).map (·.1) = es.map (·.1):=by
   rw [List.map_map]; refine List.map_congr_left fun e _ => ?_
   simp only [Function.comp]; split <;> rfl
  rw [this]; exact h
 ·rename_i q
  rw [List.map_append, List.map_singleton, List.nodup_append]
  refine ⟨h, by simp, fun a ha b hb => ?_⟩
  rw [List.mem_singleton] at hb; subst hb
  intro z; subst z
  apply q
  obtain ⟨e, he, h2⟩:=List.mem_map.mp ha
  rw [List.any_eq_true]; exact ⟨e, he, by simpa using h2⟩
theorem ByK.put {m:Int → Int} {es:List (Key × V)} (h:ByK m B es) (x v:Int):ByK (updF m x v) (B + 1) (aset es (kI x) (.int v)):=by
 obtain ⟨⟨g, mk, q⟩, n⟩:=h
 refine ⟨⟨upd g x v, mk.set kI_inj x v, fun y => ?_⟩, aset_keys n⟩
 unfold upd updF
 split
 ·rfl
 ·exact q y
theorem ByK.get {m:Int → Int} {es:List (Key × V)} {d:Addr} {x:Int} {Q:V → Store → Prop} (h:ByK m B es) (e:σ d = some (.dict es)) (q:Q (.int (m x)) σ):methW .get (.ref d) [.int x, .int 0] σ Q:=by
 obtain ⟨⟨g, mk, hg⟩, n⟩:=h
 exact getd_dict e mk (k:=x) rfl kI_tp (by rw [hg]; exact q)
theorem ByK.set {m:Int → Int} {es:List (Key × V)} {d:Addr} {x v:Int} {Q:Store → Prop} (h:ByK m B es) (hB:B ≤ 100000) (e:σ d = some (.dict es)) (q:Q (σ.set d (.dict (aset es (kI x) (.int v))))):setItemW (.ref d) (.int x) (.int v) σ Q:=by
 obtain ⟨⟨g, mk, hg⟩, n⟩:=h
 exact set_dict e mk hB (k:=x) rfl kI_tp q
theorem in_list {t:Str} {ss:List String} {b:Addr} {K:Bool → Prop} (e:σ b = some (.list (ss.map fun (s:String) => V.str (Str.ofString s)))) (q:K ((ss.map Str.ofString).contains t)):isIn σ (.str t) (.ref b) K:=by
 unfold isIn
 dsimp only
 rw [e]
 exact ⟨t, ss.map Str.ofString, rfl, strs_all ss, q⟩
end
end Mini
end
section
namespace Mini
open PySem PySem.W PyProof.Rows
noncomputable def sp_step:Spec:=fun vs σ Q => ∃ A s B k a b d, vs = [.ref A.p, .tup [.str (Kd.nm k), .int a, .int b, .int d]] ∧ IsSt σ A s B ∧ B ≤ 900 ∧ s.Good ∧ 0 ≤ a ∧ a < 16 ∧ 0 ≤ b ∧ b < 16 ∧ (k.regd = true → 0 ≤ d ∧ d < 16) ∧ (k = .movh → Rg (d * 65536)) ∧
 ∀ A' σ', A'.p = A.p → IsSt σ' A' (s.step k a b d) (B + 4) → KeepS A A' σ σ' → Q .none σ'
section
variable {σ σ':Store} {A:SA} {s:St} {B:Nat} {Γ:GE}
theorem wordN_go {m:Int → Int} {p:Int} {n:Nat}:intsOf ((List.range n).map fun (j:Nat) => V.int (m (p + j) * 256 ^ j)) = some ((List.range n).map fun (j:Nat) => m (p + j) * 256 ^ j):=by
 generalize List.range n = l
 induction l with
 | nil => rfl
 | cons a l ih => show (intsOf (l.map fun (j:Nat) => V.int (m (p + j) * 256 ^ j))).map _ = _; rw [ih]; rfl
theorem small4 {j:Nat} (h:j ≤ 4):0 ≤ (j:Int) ∧ (j:Int) ≤ 1000 ∧ ((256:Int)).natAbs < 2 ^ 64:=by omega
theorem pow4:∀ j:Nat, j ≤ 4 → ((256:Int) ^ j).natAbs < 2 ^ 64 ∧ (0:Int) < 256 ^ j:=by decide
theorem cl_all {β:Type} {guard:Store → Prop} {elt:β → Loc → Store → (β → Store → Prop) → Prop} {x:Str} {ρ:Loc} {acc:β} {v:V} {vs:List V} {Q:β → Store → Prop} (g:guard σ)
  (h:elt acc (ρ.set x v) σ fun acc' σ₂ => compLoop guard (fun ρ' σ' Q' => wIfs Γ [] ρ' σ' Q') elt x ρ vs acc' σ₂ Q):compLoop guard (fun ρ' σ' Q' => wIfs Γ [] ρ' σ' Q') elt x ρ (v :: vs) acc σ Q :=
 cl_cons g h
noncomputable def loadX:X:=.bin .Mult (.meth (.sub (.var "state") (.lit (.str "bytes"))) "get" [(.bin .Add (.var "spot") (.var "lap")), (.lit (.int (0)))]) (.bin .Pow (.lit (.int (256))) (.var "lap"))
theorem load_comp {ρ:Loc} {p:Int} {es:List (Key × V)} {Q:List V → Store → Prop} (st:σ A.p = some (.dict (stD A s.high))) (e:σ A.m = some (.dict es)) (hb:ByK s.mem B es) (g1:ρ.get "state" = some (.ref A.p)) (g2:ρ.get "spot" = some (.int p)):∀ (l:List Nat) (acc:List V), (∀ j ∈ l, j ≤ 4) → Q (acc ++ l.map fun (j:Nat) => V.int (s.mem (p + j) * 256 ^ j)) σ →
  compLoop (fun _ => True) (fun ρ' σ' Q' => wIfs Γ [] ρ' σ' Q') (fun (acc:List V) ρ' σ' Q' => wX Γ loadX ρ' σ' fun v σ'' => Q' (acc ++ [v]) σ'') "lap" ρ (l.map fun (j:Nat) => V.int j) acc σ Q:=by
 intro l
 induction l with
 | nil => intro acc hl h; rw [List.map_nil, List.append_nil] at h; exact cl_nil trivial h
 | cons j l ih =>
  intro acc hl h
  have hj:=hl j List.mem_cons_self
  refine cl_all trivial ?_
  refine x_bin <| x_meth <| x_sub <| x_var (g_th g1) <| x_lit <| st_get st st_bytes <| dict_kind e <| xs_cons <| x_bin <| x_var (g_th g2) <| x_var g_here <| n_add <| xs_cons <| x_lit <| xs_nil <| hb.get e <| x_bin <| x_lit <| x_var g_here <| n_pow (small4 hj) <| n_mul (.inr (pow4 j hj).1) ?_
  refine ih _ (fun i hi => hl i (List.mem_cons_of_mem _ hi)) ?_
  rw [List.append_assoc]; exact h
noncomputable def loadBody:List Mini.S:=[.assign "spot" (.bin .Mod (.bin .Add (.sub (.var "regs") (.var "second")) (.var "last")) (.lit (.int (4294967296)))), .assign "many" (.ite (.cmp .Eq (.var "name") (.lit (.str "LDR"))) (.lit (.int (4))) (.lit (.int (1)))), .setSub (.var "regs") (.var "first") (.bcall .sum [(.lcomp loadX "lap" (.range [(.var "many")]) [])])]
theorem spot_x {ρ:Loc} {b d:Int} {Q:V → Store → Prop} (I:IsSt σ A s B) (hb:0 ≤ b ∧ b < 16) (g2:ρ.get "regs" = some (.ref A.r)) (g5:ρ.get "second" = some (.int b)) (g6:ρ.get "last" = some (.int d)) (h:Q (.int (s.spot b d)) σ) :
  wX Γ (.bin .Mod (.bin .Add (.sub (.var "regs") (.var "second")) (.var "last")) (.lit (.int (4294967296)))) ρ σ Q :=
 x_bin <| x_bin <| x_sub <| x_var g2 <| x_var g5 <| reg_get I.rg hb.1 hb.2 <| x_var g6 <| n_add <| x_lit <| n_mod' (by decide) h
theorem x_lcomp {e it:X} {x:Str} {ifs:List X} {ρ:Loc} {Q:V → Store → Prop} (h:wIter Γ it ρ σ fun items guard σ₁ unf => items.length ≤ 1000 ∧
      compLoop guard (fun ρ' σ' Q' => wIfs Γ ifs ρ' σ' Q') (fun (acc:List V) ρ' σ' Q' => wX Γ e ρ' σ' fun v σ'' => Q' (acc ++ [v]) σ'') x ρ items [] σ₁ fun vs σ₂ => newObj (unf σ₂) (.list vs) Q):wX Γ (.lcomp e x it ifs) ρ σ Q:=h
theorem word_bd {m:Int → Int} {p:Int} (h:∀ x, 0 ≤ m x ∧ m x < 256) {n:Nat} (hn:n ≤ 4):∀ x ∈ (List.range n).map (fun (j:Nat) => m (p + j) * 256 ^ j), 0 ≤ x ∧ x < 2 ^ 40:=by
 intro x hx
 obtain ⟨j, hj, rfl⟩:=List.mem_map.mp hx
 have hj:j < 4:=Nat.lt_of_lt_of_le (List.mem_range.mp hj) hn
 have q:=pow4 j (Nat.le_of_lt hj)
 have u:∀ j:Nat, j < 4 → (255:Int) * 256 ^ j < 2 ^ 40:=by decide
 exact ⟨Int.mul_nonneg (h _).1 (Int.le_of_lt q.2), Int.lt_of_le_of_lt (Int.mul_le_mul_of_nonneg_right (Int.le_of_lt_add_one (h _).2) (Int.le_of_lt q.2)) (u j hj)⟩
theorem r_all {A:SA}:A.r ∈ A.all:=.tail _ (.head _)
theorem m_all {A:SA}:A.m ∈ A.all:=.tail _ (.tail _ (.head _))
theorem load_body {ρ:Loc} {k:Kd} {a b d:Int} {K:Fl → Loc → Store → Prop} (hk:k.load = true) (I:IsSt σ A s B) (G:s.Good) (ha:0 ≤ a ∧ a < 16) (hb:0 ≤ b ∧ b < 16) (g1:ρ.get "state" = some (.ref A.p)) (g2:ρ.get "regs" = some (.ref A.r)) (g3:ρ.get "name" = some (.str k.nm)) (g4:ρ.get "first" = some (.int a)) (g5:ρ.get "second" = some (.int b)) (g6:ρ.get "last" = some (.int d))
  (h:∀ A' σ' ρ', A'.p = A.p → IsSt σ' A' (s.step k a b d) B → KeepS A A' σ σ' → K .next ρ' σ'):wSs Γ loadBody ρ σ K:=by
 have go:∀ n:Nat, n ≤ 4 → s.step k a b d = { s with regs:=updF s.regs a (wordN s.mem (s.spot b d) n) } → wSs Γ [.setSub (.var "regs") (.var "first") (.bcall .sum [(.lcomp loadX "lap" (.range [(.var "many")]) [])])] ((ρ.set "spot" (.int (s.spot b d))).set "many" (.int n)) σ K:=by
  intro n hn hs
  obtain ⟨es, e, hes⟩:=I.by_
  refine s_sub <| x_bcall <| xs_cons <| x_lcomp <| i_range <| xs_cons <| x_var g_here <| xs_nil <| r_nat (Nat.le_trans hn (by decide)) ⟨by rw [List.length_map, List.length_range]; exact Nat.le_trans hn (by decide), ?_⟩
  refine load_comp (A:=A) (s:=s) (p:=s.spot b d) I.st e hes (g_th (g_th g1)) (g_th g_here) (List.range n) [] (fun j hj => Nat.le_trans (Nat.le_of_lt (List.mem_range.mp hj)) hn) fun f hf => xs_nil ?_
  have I1:=I.new (o:=.list ([] ++ (List.range n).map fun (j:Nat) => V.int (s.mem (s.spot b d + j) * 256 ^ j))) hf
  refine lst_sum set_eq wordN_go (by rw [List.nil_append, List.length_map, List.length_range]; exact Nat.le_trans hn (by decide)) (word_bd G.mem hn) <| x_var (g_th (g_th g2)) <| x_var (g_th (g_th g4)) <| reg_set I1.rg ha.1 ha.2 <| s_nil ?_
  have I2:=I1.setRegs (f:=updF s.regs a (wordN s.mem (s.spot b d) n))
  exact h A _ _ rfl (by rw [hs]; exact I2) ((KeepS.new hf).trans (KeepS.set r_all))
 refine s_assign <| spot_x I hb g2 g5 g6 <| s_assign <| x_ite <| t_cmp <| x_var (g_th g3) <| x_lit <| c_eqs ?_
 cases k with
 | ldr => exact ifT (decide_eq_true rfl) <| x_lit <| go 4 (by decide) rfl
 | ldb => exact ifF (decide_eq_false nn) <| x_lit <| go 1 (by decide) rfl
 | _ => exact absurd hk Bool.false_ne_true
noncomputable def putBody:List Mini.S:=[.setSub (.sub (.var "state") (.lit (.str "bytes"))) (.bin .Add (.var "spot") (.var "lap")) (.bin .Mod (.bin .FloorDiv (.sub (.var "regs") (.var "first")) (.bin .Pow (.lit (.int (256))) (.var "lap"))) (.lit (.int (256))))]
noncomputable def storeBody:List Mini.S:=[.assign "spot" (.bin .Mod (.bin .Add (.sub (.var "regs") (.var "second")) (.var "last")) (.lit (.int (4294967296)))), .for_ "lap" (.range [(.ite (.cmp .Eq (.var "name") (.lit (.str "STR"))) (.lit (.int (4))) (.lit (.int (1))))]) putBody]
theorem store_body {ρ:Loc} {k:Kd} {a b d:Int} {K:Fl → Loc → Store → Prop} (hk:k.store = true) (I:IsSt σ A s B) (hB:B ≤ 900) (ha:0 ≤ a ∧ a < 16) (hb:0 ≤ b ∧ b < 16) (g1:ρ.get "state" = some (.ref A.p)) (g2:ρ.get "regs" = some (.ref A.r)) (g3:ρ.get "name" = some (.str k.nm)) (g4:ρ.get "first" = some (.int a)) (g5:ρ.get "second" = some (.int b)) (g6:ρ.get "last" = some (.int d))
  (h:∀ A' σ' ρ', A'.p = A.p → IsSt σ' A' (s.step k a b d) (B + 4) → KeepS A A' σ σ' → K .next ρ' σ'):wSs Γ storeBody ρ σ K:=by
 have go:∀ n:Nat, n ≤ 4 → s.step k a b d = { s with mem:=putN s.mem (s.spot b d) (s.regs a) n } → forLoop (fun _ => True) (fun ρ' σ' Q' => wSs Γ putBody ρ' σ' Q') "lap" ((List.range n).map fun (i:Nat) => V.int i) (ρ.set "spot" (.int (s.spot b d))) σ (fun f ρ' σ' => seqK Γ [] K f ρ' (id σ')):=by
  intro n hn hs
  refine for_range (fun j ρ σ' => IsSt σ' A { s with mem:=putN s.mem (s.spot b d) (s.regs a) j } (B + j) ∧ KeepS A A σ σ' ∧ ρ.get "state" = some (.ref A.p) ∧ ρ.get "regs" = some (.ref A.r) ∧ ρ.get "first" = some (.int a) ∧ ρ.get "spot" = some (.int (s.spot b d))) ?_ ?_ ?_
  ·exact ⟨I, KeepS.refl _ _, g_th g1, g_th g2, g_th g4, g_here⟩
  ·rintro j ρ' σ' K' hj ⟨I1, k1, i1, i2, i3, i4⟩ q1 q2 q3
   have hj4:j ≤ 4:=Nat.le_trans (Nat.le_of_lt hj) hn
   have pw:=pow4 j hj4
   obtain ⟨es, e, hes⟩:=I1.by_
   refine s_sub <| x_bin <| x_bin <| x_sub <| x_var (g_th i2) <| x_var (g_th i3) <| reg_get I1.rg ha.1 ha.2 <| x_bin <| x_lit <| x_var g_here <| n_pow (small4 hj4) <| n_div' ⟨pw.2, pw.1⟩ <| x_lit <| n_mod' (by decide) <| x_sub <| x_var (g_th i1) <| x_lit <| st_get I1.st st_bytes <| x_bin <| x_var (g_th i4) <| x_var g_here <| n_add <| hes.set (Nat.le_trans (Nat.add_le_add hB hj4) (by decide)) e <| s_nil ?_
   exact q2 _ _ ⟨I1.setMem (m:=putN s.mem (s.spot b d) (s.regs a) (j + 1)) (hes.put _ _), k1.trans (KeepS.set m_all), g_th i1, g_th i2, g_th i3, g_th i4⟩
  ·rintro ρ' σ' ⟨I1, k1, i1, i2, i3, i4⟩
   exact h A σ' ρ' rfl (by rw [hs]; exact I1.up (Nat.add_le_add_left hn B)) k1
 refine s_assign <| spot_x I hb g2 g5 g6 <| s_for <| i_range <| xs_cons <| x_ite <| t_cmp <| x_var (g_th g3) <| x_lit <| c_eqs ?_
 cases k with
 | str => exact ifT (decide_eq_true rfl) <| x_lit <| xs_nil <| r_nat (n:=4) (by decide) <| go 4 (by decide) rfl
 | stb => exact ifF (decide_eq_false nn) <| x_lit <| xs_nil <| r_nat (n:=1) (by decide) <| go 1 (by decide) rfl
 | _ => exact absurd hk Bool.false_ne_true
end
end Mini
end
section
namespace Mini
open PySem PySem.W PyProof.Rows
section
variable {σ σ':Store} {A:SA} {s:St} {B:Nat} {Γ:GE}
theorem nmI1 (k:Kd):(fitsSsize (-1) && (Txt.charAt k.nm (-1)).isSome) = true:=(by decide +kernel:∀ k ∈ allKd, (fitsSsize (-1) && (Txt.charAt k.nm (-1)).isSome) = true) k (mem_allKd k)
theorem nmI2 (k:Kd):decide (Txt.item k.nm (-1) = Str.ofString "I") = k.isI:=(by decide +kernel:∀ k ∈ allKd, decide (Txt.item k.nm (-1) = Str.ofString "I") = k.isI) k (mem_allKd k)
theorem nmI3 (k:Kd):k.isI = true → Txt.slice k.nm none (some (-1)) = k.pn:=(by decide +kernel:∀ k ∈ allKd, k.isI = true → Txt.slice k.nm none (some (-1)) = k.pn) k (mem_allKd k)
theorem nmI4 (k:Kd):k.nm.length ≤ 1000:=(by decide +kernel:∀ k ∈ allKd, k.nm.length ≤ 1000) k (mem_allKd k)
theorem nmI5 (k:Kd):k.mem = false → k.isI = false → k ≠ .movh → k ≠ .geth → k.nm = k.pn ∧ k.regd = true:=(by decide +kernel:∀ k ∈ allKd, k.mem = false → k.isI = false → k ≠ .movh → k ≠ .geth → k.nm = k.pn ∧ k.regd = true) k (mem_allKd k)
theorem nmI6 (k:Kd):k.mem = false → k.isI = false → k.regd = true:=(by decide +kernel:∀ k ∈ allKd, k.mem = false → k.isI = false → k.regd = true) k (mem_allKd k)
theorem pn_op (k:Kd):k.pn = Str.ofString "MOV" ∨ OpNm k.pn:=by
 have q:k.pn ∈ ("MOV" :: ["ADD", "SUB", "MUL", "LSL", "AND", "XOR"]).map Str.ofString:=(by decide +kernel:∀ k ∈ allKd, k.pn ∈ ("MOV" :: ["ADD", "SUB", "MUL", "LSL", "AND", "XOR"]).map Str.ofString) k (mem_allKd k)
 rcases List.mem_cons.mp q with q | q
 ·exact .inl q
 rcases List.mem_cons.mp q with q | q
 ·exact .inr (.inl q)
 rcases List.mem_cons.mp q with q | q
 ·exact .inr (.inr (.inl q))
 rcases List.mem_cons.mp q with q | q
 ·exact .inr (.inr (.inr (.inl q)))
 rcases List.mem_cons.mp q with q | q
 ·exact .inr (.inr (.inr (.inr (.inl q))))
 rcases List.mem_cons.mp q with q | q
 ·exact .inr (.inr (.inr (.inr (.inr (.inl q)))))
 ·exact .inr (.inr (.inr (.inr (.inr (.inr (List.mem_singleton.mp q))))))
theorem right_reg {s:St} {k:Kd} {d:Int} (h1:k ≠ .movh) (h2:k ≠ .geth):s.right k d = if k.isI = true then d % 4294967296 else s.regs d:=by
 cases k with
 | movh => exact absurd rfl h1
 | geth => exact absurd rfl h2
 | _ => rfl
theorem step_calc {s:St} {k:Kd} {a b d:Int} (hk:k.mem = false):s.step k a b d = s.calc k.pn a (s.regs b) (s.right k d):=by
 cases k <;> first | rfl | exact absurd hk.symm Bool.false_ne_true
noncomputable def lcTail:List Mini.S:=[.unpack ["found", "told", "high"] (.call "_law_calculated" [(.var "plain_name"), (.sub (.var "regs") (.var "second")), (.var "right")]), .setSub (.var "regs") (.var "first") (.var "found"), .setSub (.var "state") (.lit (.str "flags")) (.var "told"), .ite (.cmp .IsNot (.var "high") (.lit .none)) [.setSub (.var "state") (.lit (.str "high")) (.var "high")] []]
noncomputable def lcMid:List Mini.S:=.ite (.cmp .Eq (.var "name") (.lit (.str "MOVH"))) [.assign "plain_name" (.lit (.str "MOV")), .assign "right" (.bin .Mult (.var "last") (.lit (.int (65536))))] [] :: .ite (.cmp .Eq (.var "name") (.lit (.str "GETH"))) [.assign "plain_name" (.lit (.str "MOV")), .assign "right" (.sub (.var "state") (.lit (.str "high")))] [] :: lcTail
noncomputable def calcStep:List Mini.S:=.assign "plain_name" (.ite (.cmp .Eq (.sub (.var "name") (.neg (.lit (.int (1))))) (.lit (.str "I"))) (.slice (.var "name") none (some (.neg (.lit (.int (1)))))) (.var "name")) :: .assign "right" (.ite (.cmp .Eq (.sub (.var "name") (.neg (.lit (.int (1))))) (.lit (.str "I"))) (.bin .Mod (.var "last") (.lit (.int (4294967296)))) (.sub (.var "regs") (.var "last"))) :: lcMid
theorem name_last {k:Kd} {ρ:Loc} {Q:Bool → Store → Prop} (g3:ρ.get "name" = some (.str k.nm)) (h:Q k.isI σ):wT Γ (.cmp .Eq (.sub (.var "name") (.neg (.lit (.int (1))))) (.lit (.str "I"))) ρ σ Q :=
 t_cmp <| x_sub <| x_var g3 <| x_neg ⟨nmI1 k, x_lit <| c_eqs (by rw [nmI2]; exact h)⟩
theorem IsSt.setFlags (h:IsSt σ A s B) {f:Addr} {fl:Int × Int × Int × Int} (hf:f ∉ A.all) (e:σ f = some (.list (flV fl))):IsSt (σ.set A.p (.dict (stD ⟨A.p, A.r, A.m, f⟩ s.high))) ⟨A.p, A.r, A.m, f⟩ { s with flags:=fl } B:=by
 obtain ⟨a1, a2, a3, b1, b2, c1⟩:=SA.ne h.nd
 simp only [SA.all, List.mem_cons, not_or, List.not_mem_nil, not_false_eq_true, and_true] at hf
 obtain ⟨n1, n2, n3, n4⟩:=hf
 refine ⟨set_eq, by show (σ.set A.p _) A.r = _; rw [set_ne a1.symm]; exact h.rg, ?_, by show (σ.set A.p _) f = _; rw [set_ne n1]; exact e, ?_⟩
 ·show ∃ es, (σ.set A.p _) A.m = _ ∧ _; rw [set_ne a2.symm]; exact h.by_
 ·show ([A.p, A.r, A.m, f]:List Addr).Nodup
  simp only [List.nodup_cons, List.mem_cons, not_or, List.not_mem_nil, not_false_eq_true, List.nodup_nil, and_true]
  exact ⟨⟨a1, a2, Ne.symm n1⟩, ⟨b1, Ne.symm n2⟩, Ne.symm n3⟩
theorem IsSt.setHigh (h:IsSt σ A s B) {x:Int}:IsSt (σ.set A.p (.dict (stD A x))) A { s with high:=x } B:=by
 obtain ⟨a1, a2, a3, b1, b2, c1⟩:=SA.ne h.nd
 refine ⟨set_eq, by rw [set_ne a1.symm]; exact h.rg, ?_, by rw [set_ne a3.symm]; exact h.fl, h.nd⟩
 show ∃ es, (σ.set A.p _) A.m = _ ∧ _; rw [set_ne a2.symm]; exact h.by_
theorem p_all {A:SA}:A.p ∈ A.all:=.head _
theorem not_all {A:SA} {f:Addr} (h:f ∉ A.all) {b:Addr} (hb:b ∈ A.all):f ≠ b:=fun z => h (z ▸ hb)
theorem fl_set {A:SA} {f:Addr} {x:Int}:aset (stD A x) (.one (.str (Str.ofString "flags"))) (.ref f) = stD ⟨A.p, A.r, A.m, f⟩ x:=rfl
theorem hi_set {A:SA} {x y:Int}:aset (stD A x) (.one (.str (Str.ofString "high"))) (optV (some y)) = stD A y:=rfl
theorem not_new {A:SA} {f y:Addr} (n:y ∉ A.all) (q:y ≠ f):y ∉ SA.all ⟨A.p, A.r, A.m, f⟩:=fun z => by
 rcases List.mem_cons.mp z with rfl | z
 ·exact n p_all
 rcases List.mem_cons.mp z with rfl | z
 ·exact n r_all
 rcases List.mem_cons.mp z with rfl | z
 ·exact n m_all
 ·exact q (List.mem_singleton.mp z)
theorem calc_tail' (hc:Γ.fn "_law_calculated" = some sp_calc) {ρ:Loc} {k:Kd} {a b d:Int} {K:Fl → Loc → Store → Prop} (hk:k.mem = false) (I:IsSt σ A s B) (G:s.Good) (ha:0 ≤ a ∧ a < 16) (hb:0 ≤ b ∧ b < 16) (rr:Rg (s.right k d)) (g1:ρ.get "state" = some (.ref A.p)) (g2:ρ.get "regs" = some (.ref A.r)) (g4:ρ.get "first" = some (.int a)) (g5:ρ.get "second" = some (.int b))
  (p1:ρ.get "plain_name" = some (.str k.pn)) (p2:ρ.get "right" = some (.int (s.right k d))) (h:∀ A' σ' ρ', A'.p = A.p → IsSt σ' A' (s.step k a b d) B → KeepS A A' σ σ' → K .next ρ' σ'):wSs Γ lcTail ρ σ K:=by
 rw [step_calc hk] at h
 refine s_unpack <| x_call hc <| xs_cons <| x_var p1 <| xs_cons <| x_sub <| x_var g2 <| x_var g5 <| reg_get I.rg hb.1 hb.2 <| xs_cons <| x_var p2 <| xs_nil ⟨k.pn, s.regs b, s.right k d, rfl, pn_op k, G.regs b hb.1 hb.2, rr, fun f σ1 hf ef x1 => ?_⟩
 generalize hv:lfound k.pn (s.regs b) (s.right k d) = v at *
 have fa:f ∉ A.all:=I.nin hf
 have I1:IsSt σ1 A s B:=I.frame fun y hy => by
  obtain ⟨o, e⟩:=Option.isSome_iff_exists.mp (I.there y hy)
  rw [e]; exact x1 _ _ e
 have I2:=I1.setRegs (f:=updF s.regs a v)
 have I3:=I2.setFlags (fl:=lflags k.pn (s.regs b) (s.right k d)) fa (by rw [set_ne (not_all fa r_all)]; exact ef)
 have kp:KeepS A ⟨A.p, A.r, A.m, f⟩ σ ((σ1.set A.r (.list (rgV (updF s.regs a v)))).set A.p (.dict (stD ⟨A.p, A.r, A.m, f⟩ s.high))) :=
  ⟨fun y o e n => by rw [set_ne (not_all n p_all), set_ne (not_all n r_all)]; exact x1 _ _ e, fun y e n => not_new n fun z => by rw [z, hf] at e; exact nomatch e⟩
 refine ⟨_, rfl, s_sub <| x_var (g_th (g_th g_here)) <| x_var (g_th (g_th (g_th g2))) <| x_var (g_th (g_th (g_th g4))) <| reg_set I1.rg ha.1 ha.2 <| s_sub <| x_var (g_th g_here) <| x_var (g_th (g_th (g_th g1))) <| x_lit <| st_set I2.st ?_⟩
 rw [fl_set]
 refine s_if <| t_cmp <| x_var g_here <| x_lit <| c_isnot ?_
 have calc_eq:∀ o, lhigh k.pn (s.regs b) (s.right k d) = o → s.calc k.pn a (s.regs b) (s.right k d) = ⟨updF s.regs a v, s.mem, lflags k.pn (s.regs b) (s.right k d), o.getD s.high⟩:=fun o e => by unfold St.calc; rw [e, hv]
 cases hq:lhigh k.pn (s.regs b) (s.right k d) with
 | none => exact ifF rfl <| s_nil <| h ⟨A.p, A.r, A.m, f⟩ _ _ rfl (by rw [calc_eq _ hq]; exact I3) kp
 | some x =>
  have I4:=I3.setHigh (x:=x)
  refine ifT rfl <| s_sub <| x_var g_here <| x_var (g_th (g_th (g_th g1))) <| x_lit <| st_set (A:=⟨A.p, A.r, A.m, f⟩) (s:=s) I3.st ?_
  rw [hi_set]
  exact s_nil <| h ⟨A.p, A.r, A.m, f⟩ _ _ rfl (by rw [calc_eq _ hq]; exact I4) (kp.trans (KeepS.set p_all))
theorem calc_step (hc:Γ.fn "_law_calculated" = some sp_calc) {ρ:Loc} {k:Kd} {a b d:Int} {K:Fl → Loc → Store → Prop} (hk:k.mem = false) (I:IsSt σ A s B) (G:s.Good) (ha:0 ≤ a ∧ a < 16) (hb:0 ≤ b ∧ b < 16) (hd:k.regd = true → 0 ≤ d ∧ d < 16) (hh:k = .movh → Rg (d * 65536)) (g1:ρ.get "state" = some (.ref A.p)) (g2:ρ.get "regs" = some (.ref A.r)) (g3:ρ.get "name" = some (.str k.nm)) (g4:ρ.get "first" = some (.int a)) (g5:ρ.get "second" = some (.int b)) (g6:ρ.get "last" = some (.int d))
  (h:∀ A' σ' ρ', A'.p = A.p → IsSt σ' A' (s.step k a b d) B → KeepS A A' σ σ' → K .next ρ' σ'):wSs Γ calcStep ρ σ K:=by
 have rr:Rg (s.right k d):=by
  by_cases h1:k = .movh
  ·subst h1; exact hh rfl
  by_cases h2:k = .geth
  ·subst h2; exact G.high
  rw [right_reg h1 h2]
  cases hi:k.isI with
  | true => rw [if_pos rfl]; exact mod_rg d
  | false => have q:=hd (nmI6 k hk hi); rw [if_neg Bool.false_ne_true]; exact G.regs d q.1 q.2
 have two:∀ (pn:Str) (r:Int), (k = .movh ∨ k = .geth ∨ (pn = k.pn ∧ r = s.right k d)) → wSs Γ lcMid ((ρ.set "plain_name" (.str pn)).set "right" (.int r)) σ K:=by
  intro pn r hpr
  refine s_if <| t_cmp <| x_var (g_th (g_th g3)) <| x_lit <| c_eqs ?_
  rw [kf3]
  refine ifD (fun hk1 => ?_) fun hk1 => s_if <| t_cmp <| x_var (g_th (g_th g3)) <| x_lit <| c_eqs ?_
  ·subst hk1
   refine s_assign <| x_lit <| s_assign <| x_bin <| x_var (g_th (g_th (g_th g6))) <| x_lit <| n_mul (.inr (by decide)) <| s_nil <| s_if <| t_cmp <| x_var (g_th (g_th (g_th (g_th g3)))) <| x_lit <| c_eqs <| ifF (decide_eq_false nn) ?_
   exact calc_tail' hc hk I G ha hb rr (g_th (g_th (g_th (g_th g1)))) (g_th (g_th (g_th (g_th g2)))) (g_th (g_th (g_th (g_th g4)))) (g_th (g_th (g_th (g_th g5)))) (g_th g_here) g_here h
  ·rw [kf2]
   refine ifD (fun hk2 => ?_) fun hk2 => ?_
   ·subst hk2
    refine s_assign <| x_lit <| s_assign <| x_sub <| x_var (g_th (g_th (g_th g1))) <| x_lit <| st_get I.st st_high <| s_nil ?_
    exact calc_tail' hc hk I G ha hb rr (g_th (g_th (g_th (g_th g1)))) (g_th (g_th (g_th (g_th g2)))) (g_th (g_th (g_th (g_th g4)))) (g_th (g_th (g_th (g_th g5)))) (g_th g_here) g_here h
   ·rcases hpr with q | q | ⟨e1, e2⟩
    ·exact absurd q hk1
    ·exact absurd q hk2
    ·subst e1 e2
     exact calc_tail' hc hk I G ha hb rr (g_th (g_th g1)) (g_th (g_th g2)) (g_th (g_th g4)) (g_th (g_th g5)) (g_th g_here) g_here h
 refine s_assign <| x_ite <| name_last g3 ?_
 cases hi:k.isI with
 | true =>
  refine ifT rfl <| x_slice <| x_var g3 <| o_none <| o_some <| x_neg ⟨nmI4 k, ?_⟩
  rw [nmI3 k hi]
  refine s_assign <| x_ite <| name_last (g_th g3) <| ifT hi <| x_bin <| x_var (g_th g6) <| x_lit <| n_mod' (by decide) <| two k.pn (d % 4294967296) (.inr (.inr ⟨rfl, ?_⟩))
  rw [right_reg (fun z => by subst z; exact nomatch hi) (fun z => by subst z; exact nomatch hi), if_pos hi]
 | false =>
  have q:=hd (nmI6 k hk hi)
  refine ifF rfl <| x_var g3 <| s_assign <| x_ite <| name_last (g_th g3) <| ifF hi <| x_sub <| x_var (g_th g2) <| x_var (g_th g6) <| reg_get I.rg q.1 q.2 <| two k.nm (s.regs d) ?_
  by_cases h1:k = .movh
  ·exact .inl h1
  by_cases h2:k = .geth
  ·exact .inr (.inl h2)
  ·refine .inr (.inr ⟨(nmI5 k hk hi h1 h2).1, ?_⟩)
   rw [right_reg h1 h2, hi, if_neg Bool.false_ne_true]
end
end Mini
end
section
namespace Mini
open PySem PySem.W PyProof.Rows
section
variable {σ σ':Store} {A:SA} {s:St} {B:Nat} {Γ:GE}
theorem ld_in (k:Kd):(["LDR", "LDB"].map Str.ofString).contains k.nm = k.load:=(by decide +kernel:∀ k ∈ allKd, (["LDR", "LDB"].map Str.ofString).contains k.nm = k.load) k (mem_allKd k)
theorem st_in (k:Kd):(["STR", "STB"].map Str.ofString).contains k.nm = k.store:=(by decide +kernel:∀ k ∈ allKd, (["STR", "STB"].map Str.ofString).contains k.nm = k.store) k (mem_allKd k)
theorem seq_nil {K:Fl → Loc → Store → Prop}:seqK Γ [] K = K:=by funext f _ _; cases f <;> rfl
theorem ok_step (hc:Γ.fn "_law_calculated" = some sp_calc) {vs:List V} {σ:Store} {Q:V → Store → Prop} (h:sp_step vs σ Q):wBody Γ ["state", "step"] b__law_step vs σ Q:=by
 obtain ⟨A, s, B, k, a, b, d, rfl, I, hB, G, ha0, ha1, hb0, hb1, hd, hh, hq⟩:=h
 refine body_intro rfl ?_
 show wSs Γ (.unpack ["name", "first", "second", "last"] (.var "step") :: .assign "regs" (.sub (.var "state") (.lit (.str "regs"))) :: [.ite (.cmp .In (.var "name") (.list (["LDR", "LDB"].map fun (s:String) => X.lit (.str (Str.ofString s))))) loadBody [.ite (.cmp .In (.var "name") (.list (["STR", "STB"].map fun (s:String) => X.lit (.str (Str.ofString s))))) storeBody calcStep]]) _ σ _
 generalize hρ:((Loc.set [] "state" (V.ref A.p)).set "step" (.tup [.str k.nm, .int a, .int b, .int d])) = ρ
 have g1:ρ.get "state" = some (.ref A.p):=hρ ▸ g_th g_here
 have g2:ρ.get "step" = some (.tup [.str k.nm, .int a, .int b, .int d]):=hρ ▸ g_here
 refine s_unpack <| x_var g2 ⟨_, rfl, s_assign <| x_sub <| x_var (g_th (g_th (g_th (g_th g1)))) <| x_lit <| st_get I.st st_regs ?_⟩
 generalize hρ2:((((ρ.set "name" (V.str k.nm)).set "first" (.int a)).set "second" (.int b)).set "last" (.int d)).set "regs" (.ref A.r) = ρ2
 have k1:ρ2.get "state" = some (.ref A.p):=hρ2 ▸ g_th (g_th (g_th (g_th (g_th g1))))
 have k2:ρ2.get "regs" = some (.ref A.r):=hρ2 ▸ g_here
 have k3:ρ2.get "name" = some (.str k.nm):=hρ2 ▸ g_th (g_th (g_th (g_th g_here)))
 have k4:ρ2.get "first" = some (.int a):=hρ2 ▸ g_th (g_th (g_th g_here))
 have k5:ρ2.get "second" = some (.int b):=hρ2 ▸ g_th (g_th g_here)
 have k6:ρ2.get "last" = some (.int d):=hρ2 ▸ g_th g_here
 have fin:∀ {σ1:Store}, KeepS A A σ σ1 → ∀ A' σ' (ρ':Loc), A'.p = A.p → IsSt σ' A' (s.step k a b d) (B + 4) → KeepS A A' σ1 σ' → Q .none σ':=fun {σ1} kp A' σ' ρ' e I' k' => hq A' σ' e I' (kp.trans k')
 refine s_ite <| t_cmp <| x_var k3 <| x_list <| lits _ fun b1 hb1' => ?_
 have I1:=I.new (o:=.list (["LDR", "LDB"].map fun (s:String) => V.str (Str.ofString s))) hb1'
 have kp1:KeepS A A σ _:=KeepS.new (o:=.list (["LDR", "LDB"].map fun (s:String) => V.str (Str.ofString s))) hb1'
 refine c_in <| in_list set_eq ?_
 rw [ld_in, seq_nil]
 refine ifC (fun hl => load_body hl I1 G ⟨ha0, ha1⟩ ⟨hb0, hb1⟩ k1 k2 k3 k4 k5 k6 fun A' σ' ρ' e I' k' => fin kp1 A' σ' ρ' e (I'.up (Nat.le_add_right _ _)) k') fun hl => ?_
 refine s_ite <| t_cmp <| x_var k3 <| x_list <| lits _ fun b2 hb2' => ?_
 have I2:=I1.new (o:=.list (["STR", "STB"].map fun (s:String) => V.str (Str.ofString s))) hb2'
 have kp2:=kp1.trans (KeepS.new (A:=A) (o:=.list (["STR", "STB"].map fun (s:String) => V.str (Str.ofString s))) hb2')
 refine c_in <| in_list set_eq ?_
 rw [st_in, seq_nil]
 refine ifC (fun hs => store_body hs I2 hB ⟨ha0, ha1⟩ ⟨hb0, hb1⟩ k1 k2 k3 k4 k5 k6 (fin kp2)) fun hs => ?_
 have hm:k.mem = false:=by unfold Kd.mem; rw [hl, hs]; rfl
 exact calc_step hc hm I2 G ⟨ha0, ha1⟩ ⟨hb0, hb1⟩ hd hh k1 k2 k3 k4 k5 k6 fun A' σ' ρ' e I' k' => fin kp2 A' σ' ρ' e (I'.up (Nat.le_add_right _ _)) k'
noncomputable def condV (c:Str) (f:Int × Int × Int × Int):Int:=if c = "EQ" then f.2.1 else if c = "NE" then 1 - f.2.1 else if c = "MI" then f.1 else if c = "CS" then f.2.2.1 else if c = "VS" then f.2.2.2 else if c = "LT" then (f.1 + f.2.2.2) % 2 else 0
noncomputable def condH (c:Str) (f:Int × Int × Int × Int):Bool:=decide (condV c f = 1)
noncomputable def sp_holds:Spec:=fun vs σ Q => ∃ c f fl, vs = [.str c, .ref f] ∧ σ f = some (.list (flV fl)) ∧ (∃ s ∈ condNames, c = Str.ofString s) ∧ ∀ σ', Ext σ σ' → Q (.bool (condH c fl)) σ'
noncomputable def condEs (f:Int × Int × Int × Int):List (Key × V):=[(Key.one (.str "EQ"), .int f.2.1), (Key.one (.str "NE"), .int (1 - f.2.1)), (Key.one (.str "MI"), .int f.1), (Key.one (.str "CS"), .int f.2.2.1), (Key.one (.str "VS"), .int f.2.2.2), (Key.one (.str "LT"), .int ((f.1 + f.2.2.2) % 2)), (Key.one (.str "NV"), .int 0)]
theorem cond_tp {f:Int × Int × Int × Int}:∀ e ∈ condEs f, e.1.isTp = false:=by
 have:(condEs f).all (fun e => !e.1.isTp) = true:=rfl
 intro e he
 exact (Bool.not_eq_true' _).mp (List.all_eq_true.mp this e he)
theorem cond_get {f:Int × Int × Int × Int}:∀ s ∈ condNames, aget (condEs f) (.one (.str (Str.ofString s))) = some (.int (condV (Str.ofString s) f)):=by
 intro s hs
 rcases List.mem_cons.mp hs with rfl | hs
 ·unfold condV; rw [if_pos rfl]; rfl
 rcases List.mem_cons.mp hs with rfl | hs
 ·unfold condV; rw [if_neg nn, if_pos rfl]; rfl
 rcases List.mem_cons.mp hs with rfl | hs
 ·unfold condV; rw [if_neg nn, if_neg nn, if_pos rfl]; rfl
 rcases List.mem_cons.mp hs with rfl | hs
 ·unfold condV; rw [if_neg nn, if_neg nn, if_neg nn, if_pos rfl]; rfl
 rcases List.mem_cons.mp hs with rfl | hs
 ·unfold condV; rw [if_neg nn, if_neg nn, if_neg nn, if_neg nn, if_pos rfl]; rfl
 rcases List.mem_cons.mp hs with rfl | hs
 ·unfold condV; rw [if_neg nn, if_neg nn, if_neg nn, if_neg nn, if_neg nn, if_pos rfl]; rfl
 ·obtain rfl:=List.mem_singleton.mp hs
  unfold condV; rw [if_neg nn, if_neg nn, if_neg nn, if_neg nn, if_neg nn, if_neg nn]; rfl
theorem one_get {b:Addr} {es:List (Key × V)} {k:Str} {v:V} {K:V → Store → Prop} (e:σ b = some (.dict es)) (t:∀ e ∈ es, e.1.isTp = false) (g:aget es (.one (.str k)) = some v) (q:K v σ):getItemW (.ref b) (.str k) σ K:=by
 unfold getItemW
 dsimp only
 rw [e]
 exact ⟨_, _, rfl, fun e he => by rw [t e he]; rfl, g, q⟩
theorem ok_holds {vs:List V} {σ:Store} {Q:V → Store → Prop} (h:sp_holds vs σ Q):wBody Γ ["cond", "told"] b__law_holds vs σ Q:=by
 obtain ⟨c, f, fl, rfl, e, ⟨s, hs, rfl⟩, hq⟩:=h
 refine body_intro rfl ?_
 unfold b__law_holds
 refine s_unpack <| x_var g_here ⟨flV fl, e, _, rfl, s_ret <| x_cmp <| x_sub <| x_dict ?_⟩
 refine x_var (g_th (g_th g_here)) <| x_bin <| x_lit <| x_var (g_th (g_th g_here)) <| n_sub <| x_var (g_th (g_th (g_th g_here))) <| x_var (g_th g_here) <| x_var g_here <| x_bin <| x_bin <| x_var (g_th (g_th (g_th g_here))) <| x_var g_here <| n_add <| x_lit <| n_mod' (by decide) <| x_lit fun b hb => ?_
 exact x_var (g_th (g_th (g_th (g_th (g_th g_here))))) <| one_get (es:=condEs fl) set_eq cond_tp (cond_get s hs) <| x_lit <| c_eqi <| hq _ (Ext.new hb)
end
end Mini
end
section
namespace Mini
open PySem PySem.W PyProof.Rows
noncomputable def Tidy (σ:Store) (A:SA):Prop:=∃ es, σ A.m = some (.dict es) ∧ ∀ e ∈ es, ∃ i, e.2 = .int i ∧ i ≠ 0
noncomputable def sp_tidy:Spec:=fun vs σ Q => ∃ A s B, vs = [.ref A.p] ∧ IsSt σ A s B ∧ B ≤ 900 ∧ ∀ A' σ', A'.p = A.p → IsSt σ' A' s B → Tidy σ' A' → KeepS A A' σ σ' → Q (.ref A.p) σ'
section
variable {σ σ':Store} {A:SA} {s:St} {B:Nat} {Γ:GE}
structure TidyI (g:Int → Option Int) (pre acc:List (Key × V)):Prop where
 mp:MapK kI (fun x => if pre.any (fun e => decide (e.1 = kI x)) = true ∧ g x ≠ some 0 then g x else none) pre.length acc
 nd:(acc.map (·.1)).Nodup
 nz:∀ e ∈ acc, ∃ i, e.2 = .int i ∧ i ≠ 0
noncomputable def spotX:X:=.sub (.sub (.var "state") (.lit (.str "bytes"))) (.var "spot")
theorem bytes_get {τ:Store} {es:List (Key × V)} {g:Int → Option Int} {x i h:Int} {ρ:Loc} {Q:V → Store → Prop} (st:τ A.p = some (.dict (stD A h))) (e:τ A.m = some (.fdict es)) (mk:MapK kI g B es) (hx:g x = some i) (g1:ρ.get "state" = some (.ref A.p)) (g2:ρ.get "spot" = some (.int x)) (q:Q (.int i) τ) :
  wX Γ spotX ρ τ Q:=by
 refine x_sub <| x_sub <| x_var g1 <| x_lit <| st_get (s:=⟨fun _ => 0, fun _ => 0, (0, 0, 0, 0), h⟩) st st_bytes <| x_var g2 ?_
 unfold getItemW
 dsimp only
 rw [e]
 exact ⟨kI x, .int i, rfl, fun en he => by obtain ⟨y, v, e1, _⟩:=mk.shape en he; rw [e1]; exact kI_tp _ _, by rw [mk.at_ x, hx]; rfl, q⟩
theorem tidy_loop {τ:Store} {es:List (Key × V)} {g:Int → Option Int} {h:Int} {ρ:Loc} {Q:List (Key × V) → Store → Prop} (st:τ A.p = some (.dict (stD A h))) (e:τ A.m = some (.fdict es)) (mk:MapK kI g B es) (g1:ρ.get "state" = some (.ref A.p)) (hq:∀ acc, TidyI g es acc → Q acc τ):∀ (post pre acc:List (Key × V)), es = pre ++ post → TidyI g pre acc →
  compLoop (fun σ' => σ' A.m = some (.fdict es)) (fun ρ' σ' Q' => wIfs Γ [(.cmp .NotEq spotX (.lit (.int (0))))] ρ' σ' Q') (fun (acc:List (Key × V)) ρ' σ' Q' => wX Γ (.var "spot") ρ' σ' fun kv σ'' => wX Γ spotX ρ' σ'' fun v σ₃ =>
   ∃ key, kv.key? = some key ∧ (∀ e ∈ acc, e.1.isTp = key.isTp) ∧ Q' (aset acc key v) σ₃) "spot" ρ (post.map fun e => e.1.v) acc τ Q:=by
 intro post
 induction post with
 | nil =>
  intro pre acc he t
  rw [List.append_nil] at he; subst he
  exact cl_nil e (hq acc t)
 | cons en post ih =>
  intro pre acc he t
  have mem:en ∈ es:=by rw [he]; exact List.mem_append_right _ (.head _)
  have he':es = (pre ++ [en]) ++ post:=by rw [he, List.append_assoc]; rfl
  have len:(pre ++ [en]).length = pre.length + 1:=List.length_append
  obtain ⟨x, v, h1, h2⟩:=mk.shape en mem
  have hx:∃ i, g x = some i:=by
   have q:=mk.at_ x
   have:(aget es (kI x)).isSome = true:=by
    rw [← any_aget]; exact List.any_eq_true.mpr ⟨en, mem, decide_eq_true h1⟩
   rw [q, Option.isSome_map] at this
   exact Option.isSome_iff_exists.mp this
  obtain ⟨i, hi⟩:=hx
  rw [List.map_cons, h1]
  have other:∀ y, x ≠ y → (pre ++ [en]).any (fun e => decide (e.1 = kI y)) = pre.any (fun e => decide (e.1 = kI y)):=fun y hy => by
   rw [List.any_append, List.any_cons, List.any_nil, Bool.or_false, h1, decide_eq_false fun z => hy (kI_inj _ _ z), Bool.or_false]
  have self:(pre ++ [en]).any (fun e => decide (e.1 = kI x)) = true:=by
   rw [List.any_append, List.any_cons, h1, decide_eq_true rfl, Bool.true_or, Bool.or_true]
  refine cl_cons e ?_
  show wT Γ (.cmp .NotEq spotX (.lit (.int 0))) (ρ.set "spot" (.int x)) τ _
  refine t_cmp <| bytes_get st e mk hi (g_th g1) g_here <| x_lit <| c_nei ?_
  by_cases hz:i = 0
  ·refine ifF (by rw [decide_eq_true hz]; rfl) (ih (pre ++ [en]) acc he' ⟨?_, t.nd, t.nz⟩)
   rw [len]
   refine (t.mp.up (Nat.le_succ _)).congr fun y => ?_
   by_cases hy:x = y
   ·subst hy; rw [hi, hz, if_neg (fun z => z.2 rfl), if_neg (fun z => z.2 rfl)]
   ·rw [other y hy]
  ·refine ifT (by rw [decide_eq_false hz]; rfl) <| x_var g_here <| bytes_get st e mk hi (g_th g1) g_here ⟨kI x, rfl, fun en hen => by obtain ⟨y, v, e1, _⟩:=t.mp.shape en hen; rw [e1]; exact kI_tp _ _, ?_⟩
   refine ih (pre ++ [en]) _ he' ⟨?_, aset_keys t.nd, fun e' he' => ?_⟩
   ·rw [len]
    refine (t.mp.set kI_inj x i).congr fun y => ?_
    unfold upd
    by_cases hy:x = y
    ·subst hy
     rw [if_pos rfl, if_pos ⟨self, by rw [hi]; exact fun z => hz (Option.some.inj z)⟩, hi]
    ·rw [if_neg hy, other y hy]
   ·rcases mem_aset he' with q | ⟨_, q⟩
    ·exact t.nz e' q
    ·exact ⟨i, q, hz⟩
theorem IsSt.setBytes (h:IsSt σ A s B) {b:Addr} {es:List (Key × V)} (hb:b ∉ A.all) (e:σ b = some (.dict es)) (hm:ByK s.mem B es):IsSt (σ.set A.p (.dict (stD ⟨A.p, A.r, b, A.f⟩ s.high))) ⟨A.p, A.r, b, A.f⟩ s B:=by
 obtain ⟨a1, a2, a3, b1, b2, c1⟩:=SA.ne h.nd
 simp only [SA.all, List.mem_cons, not_or, List.not_mem_nil, not_false_eq_true, and_true] at hb
 obtain ⟨n1, n2, n3, n4⟩:=hb
 refine ⟨set_eq, by show (σ.set A.p _) A.r = _; rw [set_ne a1.symm]; exact h.rg, ⟨es, by show (σ.set A.p _) b = _; rw [set_ne n1]; exact e, hm⟩, by show (σ.set A.p _) A.f = _; rw [set_ne a3.symm]; exact h.fl, ?_⟩
 show ([A.p, A.r, b, A.f]:List Addr).Nodup
 simp only [List.nodup_cons, List.mem_cons, not_or, List.not_mem_nil, not_false_eq_true, List.nodup_nil, and_true]
 exact ⟨⟨a1, Ne.symm n1, a3⟩, ⟨Ne.symm n2, b2⟩, n4⟩
theorem by_set {A:SA} {f:Addr} {x:Int}:aset (stD A x) (.one (.str (Str.ofString "bytes"))) (.ref f) = stD ⟨A.p, A.r, f, A.f⟩ x:=rfl
theorem fl_all {A:SA}:A.f ∈ A.all:=.tail _ (.tail _ (.tail _ (.head _)))
theorem not_new' {A:SA} {f y:Addr} (n:y ∉ A.all) (q:y ≠ f):y ∉ SA.all ⟨A.p, A.r, f, A.f⟩:=fun z => by
 rcases List.mem_cons.mp z with rfl | z
 ·exact n p_all
 rcases List.mem_cons.mp z with rfl | z
 ·exact n r_all
 rcases List.mem_cons.mp z with z | z
 ·exact q z
 ·exact n (List.mem_singleton.mp z ▸ fl_all)
theorem i_sub {o i:X} {ρ:Loc} {Q:ItQ} (h:wX Γ o ρ σ fun u σ₁ => wX Γ i ρ σ₁ fun v σ₂ => getItemW u v σ₂ fun v σ₃ => iterVal v σ₃ Q):wIter Γ (.sub o i) ρ σ Q:=h
theorem ok_tidy {vs:List V} {σ:Store} {Q:V → Store → Prop} (h:sp_tidy vs σ Q):wBody Γ ["state"] b__law_tidy vs σ Q:=by
 obtain ⟨A, s, B, rfl, I, hB, hq⟩:=h
 refine body_intro rfl ?_
 generalize hρ:(Loc.set [] "state" (V.ref A.p)) = ρ
 have g1:ρ.get "state" = some (.ref A.p):=hρ ▸ g_here
 obtain ⟨es, e, ⟨g, mk, hg⟩, nd⟩:=I.by_
 obtain ⟨a1, a2, a3, b1, b2, c1⟩:=SA.ne I.nd
 have len:=Nat.le_trans mk.len hB
 unfold b__law_tidy
 refine s_sub <| x_dcomp <| i_sub <| x_var g1 <| x_lit <| st_get I.st st_bytes <| it_dict e (Nat.le_trans len (by decide)) (.inl fun en he => by obtain ⟨y, v, e1, _⟩:=mk.shape en he; rw [e1]; rfl) ⟨by rw [List.length_map]; exact Nat.le_trans len (by decide), ?_⟩
 refine tidy_loop (τ:=σ.set A.m (.fdict es)) (by rw [set_ne a2]; exact I.st) set_eq mk g1 (fun acc t => ?_) es [] [] rfl ⟨⟨Nat.le_refl _, fun e he => (nomatch he), fun x => by rw [if_neg fun z => Bool.false_ne_true z.1]; rfl⟩, List.nodup_nil, fun e he => nomatch he⟩
 have back:(σ.set A.m (.fdict es)).set A.m (.dict es) = σ:=by rw [set_set, set_same e]
 show newObj ((σ.set A.m (.fdict es)).set A.m (.dict es)) _ _
 rw [back]
 intro b hb
 have fb:=I.nin hb
 have bk:ByK s.mem B acc:=by
  refine ⟨⟨_, t.mp.up mk.len, fun x => ?_⟩, t.nd⟩
  rw [← hg x, any_aget, mk.at_ x, Option.isSome_map]
  cases q:g x with
  | none => rw [if_neg fun z => Bool.false_ne_true z.1]
  | some i =>
   by_cases hi:i = 0
   ·rw [hi, if_neg fun z => z.2 rfl]; rfl
   ·rw [if_pos ⟨rfl, fun z => hi (Option.some.inj z)⟩]
 have I1:=I.new (o:=.dict acc) hb
 refine x_var g1 <| x_lit <| st_set (s:=s) I1.st ?_
 rw [by_set]
 have I2:=I1.setBytes (b:=b) fb set_eq bk
 refine s_ret <| x_var g1 <| hq ⟨A.p, A.r, b, A.f⟩ _ rfl I2 ⟨acc, by show (Store.set _ A.p _) b = _; rw [set_ne (not_all fb p_all), set_eq], t.nz⟩ ⟨fun y o ey n => ?_, fun y ey n => not_new' n fun z => by rw [z, hb] at ey; exact nomatch ey⟩
 rw [set_ne (not_all n p_all), set_ne (ne_new ey hb)]; exact ey
end
end Mini
end
section
namespace Mini
open PySem PySem.W PyProof.Rows
noncomputable def mem0:Nat → Int → Int
 | 0 => fun _ => 0
 | n + 1 => updF (mem0 n) (1000 + n) (5 * n + 1)
noncomputable def st0 (rg:Int → Int):St:=⟨rg, mem0 20, (0, 1, 0, 0), 6⟩
noncomputable def runL (fx:Int → Bool):Nat → List (Option Row) → St → Int × St
 | i, [], s => (i, s)
 | i, none :: rs, s => runL fx (i + 1) rs s
 | i, some (.trap c _ _) :: rs, s => if condH c s.flags = true then (i, s) else runL fx (i + 1) rs s
 | i, some (.ins k a b d) :: rs, s => runL fx (i + 1) rs (s.step k a b (if fx i = true then d + 8 else d))
noncomputable def sp_end:Spec:=fun vs σ Q => ∃ s f a rows fx rg, vs = [.ref s, .ref f, .ref a] ∧ σ s = some (.list (rows.map orow)) ∧ FixD σ f fx ∧ σ a = some (.list (rgV rg)) ∧ rows.length ≤ 100 ∧ (∀ x, some x ∈ rows → x.Ok) ∧
 (∀ (i:Nat) k a b d, rows[i]? = some (some (.ins k a b d)) → fx i = true → k.regd = false) ∧ (∀ r, 0 ≤ r → r < 16 → Rg (rg r)) ∧
 ∀ A σ', (∀ b ∈ A.all, σ b = none) → IsSt σ' A (runL fx 0 rows (st0 rg)).2 900 → Tidy σ' A → Ext σ σ' → Q (.tup [.int (runL fx 0 rows (st0 rg)).1, .ref A.p]) σ'
section
variable {σ0 σ σ':Store} {A:SA} {s:St} {B:Nat} {Γ:GE}
theorem upd_rg {m:Int → Int} {a v:Int} (h:∀ x, 0 ≤ m x ∧ m x < 256) (hv:0 ≤ v ∧ v < 256) (x:Int):0 ≤ updF m a v x ∧ updF m a v x < 256:=by
 unfold updF
 by_cases q:a = x
 ·rw [if_pos q]; exact hv
 ·rw [if_neg q]; exact h x
theorem mem0_rg:∀ n, n ≤ 20 → ∀ x, 0 ≤ mem0 n x ∧ mem0 n x < 256:=by
 intro n
 induction n with
 | zero => intro _ x; exact ⟨Int.le_refl 0, (by decide:(0:Int) < 256)⟩
 | succ n ih => intro h x; exact upd_rg (ih (Nat.le_of_succ_le h)) (by omega) x
theorem st0_good {rg:Int → Int} (h:∀ r, 0 ≤ r → r < 16 → Rg (rg r)):(st0 rg).Good:=⟨h, fun x => mem0_rg 20 (Nat.le_refl 20) x, ⟨(by decide:(0:Int) ≤ 6), (by decide:(6:Int) < 4294967296)⟩⟩
theorem lfound_rg {nm:Str} {x y:Int} (hx:Rg x) (hy:Rg y):Rg (lfound nm x y):=by
 unfold lfound; split
 ·exact hy
 ·exact alu_rg hx hy
theorem wordN_rg {m:Int → Int} (h:∀ x, 0 ≤ m x ∧ m x < 256) (p:Int):Rg (wordN m p 4) ∧ Rg (wordN m p 1):=by
 have h0:=h (p + 0); have h1:=h (p + 1); have h2:=h (p + 2); have h3:=h (p + 3)
 have e4:wordN m p 4 = m (p + 0) * 1 + (m (p + 1) * 256 + (m (p + 2) * 65536 + (m (p + 3) * 16777216 + 0))):=rfl
 have e1:wordN m p 1 = m (p + 0) * 1 + 0:=rfl
 rw [e4, e1]
 exact ⟨⟨by omega, by omega⟩, ⟨by omega, by omega⟩⟩
theorem putN_rg {m:Int → Int} (h:∀ x, 0 ≤ m x ∧ m x < 256) (p v:Int):∀ n x, 0 ≤ putN m p v n x ∧ putN m p v n x < 256:=by
 intro n
 induction n with
 | zero => exact h
 | succ n ih => intro x; exact upd_rg ih (mod_bd (by decide)) x
theorem right_rg {s:St} (G:s.Good) {k:Kd} {d:Int} (hk:k.mem = false) (hd:k.regd = true → 0 ≤ d ∧ d < 16) (hh:k = .movh → Rg (d * 65536)):Rg (s.right k d):=by
 by_cases h1:k = .movh
 ·subst h1; exact hh rfl
 by_cases h2:k = .geth
 ·subst h2; exact G.high
 rw [right_reg h1 h2]
 cases hi:k.isI with
 | true => rw [if_pos rfl]; exact mod_rg d
 | false => have q:=hd (nmI6 k hk hi); rw [if_neg Bool.false_ne_true]; exact G.regs d q.1 q.2
theorem updF_regs {f:Int → Int} {a v:Int} (h:∀ r, 0 ≤ r → r < 16 → Rg (f r)) (hv:Rg v):∀ r, 0 ≤ r → r < 16 → Rg (updF f a v r):=fun r h0 h1 => by
 unfold updF; split
 ·exact hv
 ·exact h r h0 h1
theorem St.Good.step {s:St} (G:s.Good) {k:Kd} {a b d:Int} (hb:0 ≤ b ∧ b < 16) (hd:k.regd = true → 0 ≤ d ∧ d < 16) (hh:k = .movh → Rg (d * 65536)):(s.step k a b d).Good:=by
 cases hk:k.mem with
 | false =>
  rw [step_calc hk]
  refine ⟨updF_regs G.regs (lfound_rg (G.regs b hb.1 hb.2) (right_rg G hk hd hh)), G.mem, ?_⟩
  show Rg ((lhigh _ _ _).getD _)
  unfold lhigh
  by_cases q:k.pn = Str.ofString "MUL"
  ·rw [if_pos q]; exact mod_rg _
  ·rw [if_neg q]; exact G.high
 | true =>
  cases k with
  | ldr => exact ⟨updF_regs G.regs (wordN_rg G.mem _).1, G.mem, G.high⟩
  | ldb => exact ⟨updF_regs G.regs (wordN_rg G.mem _).2, G.mem, G.high⟩
  | str => exact ⟨G.regs, putN_rg G.mem _ _ 4, G.high⟩
  | stb => exact ⟨G.regs, putN_rg G.mem _ _ 1, G.high⟩
  | _ => exact absurd hk Bool.false_ne_true
noncomputable def HeldS (σ0 σ:Store) (A:SA):Prop:=∀ b o, σ0 b = some o → σ b = some o ∧ b ∉ A.all
theorem HeldS.keep {A':SA} (h:HeldS σ0 σ A) (k:KeepS A A' σ σ'):HeldS σ0 σ' A':=fun b o e => by
 obtain ⟨h1, h2⟩:=h b o e
 exact ⟨k.keep b o h1 h2, k.foot b (by rw [h1]; rfl) h2⟩
structure EndFns (Γ:GE):Prop where
 holds:Γ.fn "_law_holds" = some sp_holds
 tidy:Γ.fn "_law_tidy" = some sp_tidy
 step:Γ.fn "_law_step" = some sp_step
noncomputable def stepTail:List Mini.S:=[.ite (.cmp .In (.var "spot") (.var "later_on")) [.assign "step" (.tup [(.sub (.var "step") (.lit (.int (0)))), (.sub (.var "step") (.lit (.int (1)))), (.sub (.var "step") (.lit (.int (2)))), (.bin .Add (.sub (.var "step") (.lit (.int (3)))) (.lit (.int (8))))])] [], .expr (.call "_law_step" [(.var "state"), (.var "step")])]
noncomputable def trapS:Mini.S:=.ite (.cmp .Eq (.sub (.var "step") (.lit (.int (0)))) (.lit (.str "TRAP"))) [.ite (.call "_law_holds" [(.sub (.var "step") (.lit (.int (1)))), (.sub (.var "state") (.lit (.str "flags")))]) [.ret (.tup [(.var "spot"), (.call "_law_tidy" [(.var "state")])])] [], .cont] []
noncomputable def endBody:List Mini.S:=.assign "step" (.sub (.var "steps") (.var "spot")) :: .ite (.cmp .Is (.var "step") (.lit .none)) [.cont] [] :: trapS :: stepTail
theorem to_now {s:St} (I:IsSt σ A s B) (x:Ext σ σ'):IsSt σ' A s B:=I.frame fun y hy => by
 obtain ⟨o, e⟩:=Option.isSome_iff_exists.mp (I.there y hy)
 rw [e]; exact x _ _ e
theorem keep_ext (x:Ext σ σ'):KeepS A A σ σ':=⟨fun b o e _ => x b o e, fun _ _ n => n⟩
theorem nm_trap (k:Kd):k.nm ≠ Str.ofString "TRAP":=(by decide +kernel:∀ k ∈ allKd, k.nm ≠ Str.ofString "TRAP") k (mem_allKd k)
theorem le900 (h:B + 4 ≤ 900):B ≤ 900:=Nat.le_trans (Nat.le_add_right _ _) h
theorem s_ctn {r:List Mini.S} {ρ:Loc} {K:Fl → Loc → Store → Prop} (h:K .cont ρ σ):wSs Γ (.cont :: r) ρ σ K:=h
theorem end_trap (F:EndFns Γ) {ρ:Loc} {c:Str} {n m:Int} {j:Nat} {r:List Mini.S} {K:Fl → Loc → Store → Prop} (I:IsSt σ A s B) (hB:B + 4 ≤ 900) (hok:Row.Ok (.trap c n m)) (g1:ρ.get "state" = some (.ref A.p)) (g2:ρ.get "step" = some (.tup [.str "TRAP", .str c, .int n, .int m])) (g5:ρ.get "spot" = some (.int j))
  (h1:∀ σ', condH c s.flags = false → IsSt σ' A s (B + 4) → KeepS A A σ σ' → K .cont ρ σ')
  (h2:∀ A' σ', condH c s.flags = true → A'.p = A.p → IsSt σ' A' s (B + 4) → Tidy σ' A' → KeepS A A' σ σ' → K (.ret (.tup [.int j, .ref A.p])) ρ σ'):wSs Γ (trapS :: r) ρ σ K:=by
 refine s_if <| t_cmp <| v0 g2 <| x_lit <| c_eqs <| ifT (decide_eq_true rfl) ?_
 refine s_if <| t_call F.holds <| xs_cons <| v1 g2 <| xs_cons <| x_sub <| x_var g1 <| x_lit <| st_get I.st st_flags <| xs_nil ⟨c, A.f, s.flags, rfl, I.fl, hok, fun σ1 x1 => truth <| ifC (fun hc => ?_) fun hc => ?_⟩
 ·refine s_ret <| x_tup <| xs_cons <| x_var g5 <| xs_cons <| x_call F.tidy <| xs_cons <| x_var g1 <| xs_nil ⟨A, s, B, rfl, to_now I x1, le900 hB, fun A' σ' ep I' ti k' => xs_nil <| h2 A' σ' hc ep (I'.up (Nat.le_add_right _ _)) ti ((keep_ext x1).trans k')⟩
 ·exact s_ctn <| h1 σ1 hc ((to_now I x1).up (Nat.le_add_right _ _)) (keep_ext x1)
theorem end_ins (F:EndFns Γ) {ρ:Loc} {f:Addr} {fx:Int → Bool} {k:Kd} {a b d:Int} {j:Nat} {K:Fl → Loc → Store → Prop} (I:IsSt σ A s B) (hB:B + 4 ≤ 900) (G:s.Good) (ok:Row.Ok (.ins k a b d)) (hfx:fx j = true → k.regd = false) (ef:FixD σ f fx)
  (g1:ρ.get "state" = some (.ref A.p)) (g2:ρ.get "step" = some (.tup [.str k.nm, .int a, .int b, .int d])) (g5:ρ.get "spot" = some (.int j)) (g6:ρ.get "later_on" = some (.ref f))
  (h:∀ A' σ' ρ', A'.p = A.p → IsSt σ' A' (s.step k a b (if fx j = true then d + 8 else d)) (B + 4) → KeepS A A' σ σ' → (∀ x:String, x ≠ "step" → ρ'.get (Str.ofString x) = ρ.get (Str.ofString x)) → K .next ρ' σ'):wSs Γ (trapS :: stepTail) ρ σ K:=by
 refine s_if <| t_cmp <| v0 g2 <| x_lit <| c_eqs <| ifF (decide_eq_false (nm_trap k)) ?_
 have call:∀ (ρ':Loc) (d':Int), (∀ x:String, x ≠ "step" → ρ'.get (Str.ofString x) = ρ.get (Str.ofString x)) → ρ'.get "state" = some (.ref A.p) → ρ'.get "step" = some (.tup [.str k.nm, .int a, .int b, .int d']) → d' = (if fx j = true then d + 8 else d) → wSs Γ [.expr (.call "_law_step" [(.var "state"), (.var "step")])] ρ' σ K:=by
  intro ρ' d' m q1 p1 p2
  have now:k.regd = true ∨ k = .movh → d' = d:=fun z => by
   rw [p2, if_neg]
   intro y
   have r:=hfx y
   rcases z with z | z
   ·rw [r] at z; exact Bool.false_ne_true z
   ·rw [z] at r; exact Bool.false_ne_true r.symm
  refine s_expr <| x_call F.step <| xs_cons <| x_var q1 <| xs_cons <| x_var p1 <| xs_nil ⟨A, s, B, k, a, b, d', rfl, I, le900 hB, G, ok.1, ok.2.1, ok.2.2.1, ok.2.2.2.1, fun hr => ?_, fun hm => ?_, fun A' σ' ep I' k' => ⟨rfl, s_nil <| h A' σ' ρ' ep (by rw [← p2]; exact I') k' m⟩⟩
  ·rw [now (.inl hr)]; exact ok.2.2.2.2.2 hr
  ·rw [now (.inr hm)]; exact ok.movh hm
 refine s_if <| t_cmp <| x_var g5 <| x_var g6 <| c_in <| ef.in_ ?_
 refine ifC (fun hf => ?_) fun hf => call ρ d (fun _ _ => rfl) g1 g2 (by rw [hf]; rfl)
 exact s_assign <| x_tup <| xs_cons <| v0 g2 <| xs_cons <| v1 g2 <| xs_cons <| v2 g2 <| xs_cons <| x_bin <| v3 g2 <| x_lit <| n_add <| xs_nil <| s_nil <| call _ (d + 8) (fun x hx => lget_ne hx) (g_th g1) g_here (by rw [if_pos hf])
theorem end_turn (F:EndFns Γ) {ρ:Loc} {rows:List (Option Row)} {st f:Addr} {fx:Int → Bool} {j:Nat} {row:Option Row} {K:Fl → Loc → Store → Prop} (I:IsSt σ A s B) (hB:B + 4 ≤ 900) (G:s.Good) (hok:∀ x, row = some x → x.Ok) (hfx:∀ k a b d, row = some (.ins k a b d) → fx j = true → k.regd = false)
  (er:σ st = some (.list (rows.map orow))) (hl:rows.length ≤ 1000) (hj:rows[j]? = some row) (ef:FixD σ f fx) (g1:ρ.get "state" = some (.ref A.p)) (g2:ρ.get "steps" = some (.ref st)) (g5:ρ.get "spot" = some (.int j)) (g6:ρ.get "later_on" = some (.ref f))
  (h1:∀ A' σ' ρ' fl s', (fl = .next ∨ fl = .cont) → (match row with | none => s' = s | some (.trap c _ _) => condH c s.flags = false ∧ s' = s | some (.ins k a b d) => s' = s.step k a b (if fx j = true then d + 8 else d)) → A'.p = A.p → IsSt σ' A' s' (B + 4) → KeepS A A' σ σ' → (∀ x:String, x ≠ "step" → ρ'.get (Str.ofString x) = ρ.get (Str.ofString x)) → K fl ρ' σ')
  (h2:∀ A' σ' ρ' c n m, row = some (.trap c n m) → condH c s.flags = true → A'.p = A.p → IsSt σ' A' s (B + 4) → Tidy σ' A' → KeepS A A' σ σ' → K (.ret (.tup [.int j, .ref A.p])) ρ' σ'):wSs Γ endBody ρ σ K:=by
 refine s_assign <| x_sub <| x_var g2 <| x_var g5 <| lst_at er (len_map hl (by decide)) (by rw [List.getElem?_map, hj]; rfl) <| s_if <| t_cmp <| x_var g_here <| x_lit <| c_is ?_
 have kl:∀ {v}, ∀ x:String, x ≠ "step" → (ρ.set "step" v).get (Str.ofString x) = ρ.get (Str.ofString x):=fun x h1 => lget_ne h1
 cases row with
 | none => exact ifT rfl <| s_ctn <| h1 A σ _ .cont s (.inr rfl) rfl rfl (I.up (Nat.le_add_right _ _)) (KeepS.refl _ _) kl
 | some row =>
  cases row with
  | trap c n m =>
   exact ifF rfl <| end_trap F I hB (hok _ rfl) (g_th g1) g_here (g_th g5) (fun σ1 hc I1 k1 => h1 A σ1 _ .cont s (.inr rfl) ⟨hc, rfl⟩ rfl I1 k1 kl) fun A' σ' hc ep I' ti k' => h2 A' σ' _ c n m rfl hc ep I' ti k'
  | ins k a b d =>
   exact ifF rfl <| end_ins F I hB G (hok _ rfl) (hfx k a b d rfl) ef (g_th g1) g_here (g_th g5) (g_th g6) fun A' σ' ρ' ep I' k' m => h1 A' σ' ρ' .next _ (.inl rfl) rfl ep I' k' fun x hx => (m x hx).trans (kl x hx)
end
end Mini
end
section
namespace Mini
open PySem PySem.W PyProof.Rows
structure Inv (val:Int → Int) (S:VS) (rg:Int → Int):Prop where
 pos:0 ≤ S.count
 rg:∀ r n, S.regs r = some n → 0 < n ∧ n ≤ S.count ∧ rg r = val n
 cs:∀ n x, S.consts n = some x → 0 < n ∧ n ≤ S.count ∧ val n = x ∧ Rg x
 nm:∀ x n, S.numbers x = some n → S.consts n = some x
 tb:∀ k n, S.table k = some n → 0 < n ∧ n ≤ S.count ∧ k.2.1 ≤ S.count ∧ k.2.2 ≤ S.count ∧ val n = alu k.1 (val k.2.1) (val k.2.2)
noncomputable def Wd (val:Int → Int) (S:VS) (mm:Int → Int):Prop:=∀ x n, S.words x = some n → 0 < n ∧ n ≤ S.count ∧ x.1 ≤ S.count ∧ 0 ≤ x.2 ∧ x.2 ≤ 8 ∧ wordN mm ((val x.1 + x.2) % 4294967296) 4 = val n
noncomputable def Agree (val val':Int → Int) (c:Int):Prop:=∀ m, m ≤ c → val' m = val m
structure Grow (val val':Int → Int) (S S':VS) (rg:Int → Int):Prop where
 inv:Inv val' S' rg
 agree:Agree val val' S.count
 le:S.count ≤ S'.count
 words:S'.words = S.words
variable {val val':Int → Int} {S S':VS} {rg mm:Int → Int}
theorem Grow.refl (h:Inv val S rg):Grow val val S S rg:=⟨h, fun _ _ => rfl, Int.le_refl _, rfl⟩
theorem Grow.trans {val'':Int → Int} {S'':VS} (h:Grow val val' S S' rg) (h':Grow val' val'' S' S'' rg):Grow val val'' S S'' rg :=
 ⟨h'.inv, fun m hm => by rw [h'.agree m (Int.le_trans hm h.le), h.agree m hm], Int.le_trans h.le h'.le, by rw [h'.words, h.words]⟩
theorem Grow.wd (h:Grow val val' S S' rg) (w:Wd val S mm):Wd val' S' mm:=fun x n e => by
 rw [h.words] at e
 obtain ⟨h1, h2, h3, h4, h5, h6⟩:=w x n e
 have:=h.le
 exact ⟨h1, Int.le_trans h2 this, Int.le_trans h3 this, h4, h5, by rw [h.agree _ h3, h.agree _ h2]; exact h6⟩
theorem upd_at {α:Type} [DecidableEq α] {f:α → Option Int} {x:α} {v:Int}:upd f x v x = some v:=if_pos rfl
theorem upd_ne {α:Type} [DecidableEq α] {f:α → Option Int} {x y:α} {v:Int} (h:x ≠ y):upd f x v y = f y:=if_neg h
theorem upd_some {α:Type} [DecidableEq α] {f:α → Option Int} {x y:α} {v n:Int} (e:upd f x v y = some n):(x = y ∧ v = n) ∨ (x ≠ y ∧ f y = some n):=by
 by_cases h:x = y
 ·exact .inl ⟨h, Option.some.inj ((if_pos h).symm.trans e)⟩
 ·exact .inr ⟨h, (if_neg h).symm.trans e⟩
theorem one_pos {c:Int} (h:0 ≤ c):0 < c + 1:=Int.lt_add_one_of_le h
theorem le1 {a b:Int} (h:a ≤ b):a ≤ b + 1:=Int.le_add_one h
theorem ne1 {a b:Int} (h:a ≤ b):¬ b + 1 = a:=fun z => absurd (Int.lt_add_one_of_le h) (z ▸ Int.lt_irrefl _)
theorem Inv.bump (h:Inv val S rg) (x:Int):Inv (updF val (S.count + 1) x) S.fresh rg ∧ Agree val (updF val (S.count + 1) x) S.count ∧ updF val (S.count + 1) x (S.count + 1) = x:=by
 have ag:Agree val (updF val (S.count + 1) x) S.count:=fun m hm => if_neg (ne1 hm)
 refine ⟨⟨Int.le_of_lt (one_pos h.pos), fun r n e => ?_, fun n y e => ?_, h.nm, fun k n e => ?_⟩, ag, if_pos rfl⟩
 ·obtain ⟨h1, h2, h3⟩:=h.rg r n e; exact ⟨h1, le1 h2, h3.trans (ag n h2).symm⟩
 ·obtain ⟨h1, h2, h3, h4⟩:=h.cs n y e; exact ⟨h1, le1 h2, (ag n h2).trans h3, h4⟩
 ·obtain ⟨h1, h2, h3, h4, h5⟩:=h.tb k n e; exact ⟨h1, le1 h2, le1 h3, le1 h4, by rw [ag n h2, ag _ h3, ag _ h4]; exact h5⟩
theorem grow_fresh (h:Inv val S rg) (x:Int):∃ val', Grow val val' S S.fresh rg ∧ val' (S.count + 1) = x :=
 let ⟨h1, h2, h3⟩:=h.bump x
 ⟨_, ⟨h1, h2, le1 (Int.le_refl _), rfl⟩, h3⟩
theorem Inv.setReg (h:Inv val S rg) {a n v:Int} (h0:0 < n) (h1:n ≤ S.count) (hv:val n = v):Inv val { S with regs:=upd S.regs a n } (updF rg a v):=by
 refine ⟨h.pos, fun r m e => ?_, h.cs, h.nm, h.tb⟩
 rcases upd_some e with ⟨q, rfl⟩ | ⟨q, e⟩
 ·exact ⟨h0, h1, (if_pos q).trans hv.symm⟩
 ·obtain ⟨h1, h2, h3⟩:=h.rg r m e; exact ⟨h1, h2, (if_neg q).trans h3⟩
theorem updF_same {f:Int → Int} {a v:Int} (h:f a = v):updF f a v = f:=by
 funext y
 by_cases q:a = y
 ·exact (if_pos q).trans (h.symm.trans (congrArg f q))
 ·exact if_neg q
theorem grow_of (h:Inv val S rg) (r:Int):∃ val', Grow val val' S (S.of r).2 rg ∧ 0 < (S.of r).1 ∧ (S.of r).1 ≤ (S.of r).2.count ∧ val' (S.of r).1 = rg r:=by
 unfold VS.of
 cases hr:S.regs r with
 | some n =>
  obtain ⟨h1, h2, h3⟩:=h.rg r n hr
  exact ⟨val, Grow.refl h, h1, h2, h3.symm⟩
 | none =>
  obtain ⟨val', g, e⟩:=grow_fresh h (rg r)
  have p:=h.pos
  refine ⟨val', ⟨?_, g.agree, g.le, g.words⟩, one_pos p, Int.le_refl _, e⟩
  have q:=g.inv.setReg (a:=r) (n:=S.count + 1) (v:=rg r) (one_pos p) (Int.le_refl _) e
  rw [updF_same rfl] at q
  exact q
theorem grow_const (h:Inv val S rg) {v:Int} (hv:Rg v):∃ val', Grow val val' S (S.const v).2 rg ∧ 0 < (S.const v).1 ∧ (S.const v).1 ≤ (S.const v).2.count ∧ val' (S.const v).1 = v:=by
 unfold VS.const
 cases hr:S.numbers v with
 | some n =>
  obtain ⟨h1, h2, h3, h4⟩:=h.cs n v (h.nm v n hr)
  exact ⟨val, Grow.refl h, h1, h2, h3⟩
 | none =>
  obtain ⟨val', g, e⟩:=grow_fresh h v
  have p:=h.pos
  refine ⟨val', ⟨⟨g.inv.pos, g.inv.rg, fun n x q => ?_, fun x n q => ?_, g.inv.tb⟩, g.agree, g.le, g.words⟩, one_pos p, Int.le_refl _, e⟩
  ·rcases upd_some q with ⟨rfl, rfl⟩ | ⟨_, q⟩
   ·exact ⟨one_pos p, Int.le_refl _, e, hv⟩
   ·exact g.inv.cs n x q
  ·rcases upd_some q with ⟨rfl, rfl⟩ | ⟨_, q⟩
   ·exact upd_at
   ·have c:=h.nm x n q
    exact (upd_ne (ne1 (h.cs n x c).2.1)).trans c
theorem grow_tabled (h:Inv val S rg) {k:Str × Int × Int} (h1:k.2.1 ≤ S.count) (h2:k.2.2 ≤ S.count):∃ val', Grow val val' S (S.tabled k).2 rg ∧ 0 < (S.tabled k).1 ∧ (S.tabled k).1 ≤ (S.tabled k).2.count ∧ val' (S.tabled k).1 = alu k.1 (val k.2.1) (val k.2.2):=by
 unfold VS.tabled
 cases hr:S.table k with
 | some n =>
  obtain ⟨q1, q2, _, _, q5⟩:=h.tb k n hr
  exact ⟨val, Grow.refl h, q1, q2, q5⟩
 | none =>
  obtain ⟨val', g, e⟩:=grow_fresh h (alu k.1 (val k.2.1) (val k.2.2))
  have p:=h.pos
  refine ⟨val', ⟨⟨g.inv.pos, g.inv.rg, g.inv.cs, g.inv.nm, fun k' n q => ?_⟩, g.agree, g.le, g.words⟩, one_pos p, Int.le_refl _, e⟩
  rcases upd_some q with ⟨rfl, rfl⟩ | ⟨_, q⟩
  ·exact ⟨one_pos p, Int.le_refl _, le1 h1, le1 h2, by rw [e, g.agree _ h1, g.agree _ h2]⟩
  ·exact g.inv.tb k' n q
theorem grow_calculated (h:Inv val S rg) {nm:Str} {l r:Int} (hn:OpNm nm) (h1:l ≤ S.count) (h2:r ≤ S.count):∃ val', Grow val val' S (S.calculated nm l r).2 rg ∧ 0 < (S.calculated nm l r).1 ∧ (S.calculated nm l r).1 ≤ (S.calculated nm l r).2.count ∧ val' (S.calculated nm l r).1 = alu nm (val l) (val r):=by
 have tab:∃ val', Grow val val' S (S.tabled (VS.key nm l r)).2 rg ∧ 0 < (S.tabled (VS.key nm l r)).1 ∧ (S.tabled (VS.key nm l r)).1 ≤ (S.tabled (VS.key nm l r)).2.count ∧ val' (S.tabled (VS.key nm l r)).1 = alu nm (val l) (val r):=by
  by_cases q:evenH nm = true ∧ r < l
  ·rw [show VS.key nm l r = (nm, r, l) from if_pos q]
   obtain ⟨v, g, q1, q2, q3⟩:=grow_tabled h (k:=(nm, r, l)) h2 h1
   exact ⟨v, g, q1, q2, q3.trans (alu_comm q.1 hn)⟩
  ·rw [show VS.key nm l r = (nm, l, r) from if_neg q]
   exact grow_tabled h (k:=(nm, l, r)) h1 h2
 unfold VS.calculated
 cases hl:S.consts l with
 | none => exact tab
 | some x =>
  cases hr:S.consts r with
  | none => exact tab
  | some y =>
   obtain ⟨_, _, e1, x1⟩:=h.cs l x hl
   obtain ⟨_, _, e2, y1⟩:=h.cs r y hr
   rw [e1, e2]
   exact grow_const h (alu_rg x1 y1)
end Mini
end
section
namespace Mini
open PySem PySem.W PyProof.Rows
variable {val val':Int → Int} {S S':VS} {rg mm:Int → Int} {s t:St}
theorem op_found (o:Op) (x y:Int):lfound o.nm x y = alu o.nm x y:=if_neg (by cases o <;> exact ofs_ne)
theorem mov_found (x y:Int):lfound (Str.ofString "MOV") x y = y:=if_pos rfl
theorem grow_two {l r x y:Int} {S1 S2:VS} {v1 v2:Int → Int} (g1:Grow val v1 S S1 rg) (a2:l ≤ S1.count) (a3:v1 l = x) (g2:Grow v1 v2 S1 S2 rg) (b2:r ≤ S2.count) (b3:v2 r = y) (o:Op) :
  ∃ val', Grow val val' S (S2.calculated o.nm l r).2 rg ∧ 0 < (S2.calculated o.nm l r).1 ∧ (S2.calculated o.nm l r).1 ≤ (S2.calculated o.nm l r).2.count ∧ val' (S2.calculated o.nm l r).1 = lfound o.nm x y:=by
 obtain ⟨v3, g3, c1, c2, c3⟩:=grow_calculated g2.inv (f_op o) (Int.le_trans a2 g2.le) b2
 exact ⟨v3, (g1.trans g2).trans g3, c1, c2, c3.trans (by rw [b3, g2.agree _ a2, a3]; exact (op_found o _ _).symm)⟩
theorem grow_result (h:Inv val S s.regs) {k:Kd} {a b d:Int} (hk:k.mem = false) (hm:k = .movh → Rg (d * 65536)):∃ val', Grow val val' S (S.result k a b d).2 s.regs ∧ 0 < (S.result k a b d).1 ∧ (S.result k a b d).1 ≤ (S.result k a b d).2.count ∧ val' (S.result k a b d).1 = lfound k.pn (s.regs b) (s.right k d):=by
 cases k with
 | mov =>
  obtain ⟨v, g, h1, h2, h3⟩:=grow_of h d
  exact ⟨v, g, h1, h2, h3.trans (mov_found (s.regs b) _).symm⟩
 | movi =>
  obtain ⟨v, g, h1, h2, h3⟩:=grow_const h (mod_rg d)
  exact ⟨v, g, h1, h2, h3.trans (mov_found (s.regs b) _).symm⟩
 | movh =>
  obtain ⟨v, g, h1, h2, h3⟩:=grow_const h (hm rfl)
  exact ⟨v, g, h1, h2, h3.trans (mov_found (s.regs b) _).symm⟩
 | geth =>
  obtain ⟨v, g, h3⟩:=grow_fresh h s.high
  exact ⟨v, g, one_pos h.pos, Int.le_refl _, h3.trans (mov_found (s.regs b) s.high).symm⟩
 | op o =>
  obtain ⟨v1, g1, a1, a2, a3⟩:=grow_of h b
  obtain ⟨v2, g2, b1, b2, b3⟩:=grow_of g1.inv d
  exact grow_two g1 a2 a3 g2 b2 b3 o
 | opi o =>
  obtain ⟨v1, g1, a1, a2, a3⟩:=grow_of h b
  obtain ⟨v2, g2, b1, b2, b3⟩:=grow_const g1.inv (mod_rg d)
  exact grow_two g1 a2 a3 g2 b2 b3 o
 | _ => exact nomatch hk
noncomputable def St.stepR (t:St):Row → St
 | .ins k a b d => t.step k a b d
 | .trap .. => t
theorem sgn_mod {x:Int} (hx:Rg x):sgn x % 4294967296 = x:=by
 unfold sgn
 by_cases q:x ≥ 2147483648
 ·rw [if_pos q, Int.sub_emod_right]; exact Int.emod_eq_of_lt hx.1 hx.2
 ·rw [if_neg q]; exact Int.emod_eq_of_lt hx.1 hx.2
theorem asImm_mod {x i:Int} (hx:Rg x) (h:asImm x = some i):i % 4294967296 = x:=by
 unfold asImm at h
 by_cases q:-65536 ≤ sgn x ∧ sgn x ≤ 65535
 ·rw [if_pos q] at h; rw [← Option.some.inj h]; exact sgn_mod hx
 ·rw [if_neg q] at h; exact nomatch h
theorem grow_imm (h:Inv val S rg) {k:Kd} {a b d:Int}:∃ val', Grow val val' S (S.imm k a b d).2 rg ∧ ∀ t:St, t.regs = rg → t.stepR (S.imm k a b d).1 = t.step k a b d:=by
 unfold VS.imm
 cases k with
 | op o =>
  obtain ⟨v, g, h1, h2, h3⟩:=grow_of h d
  dsimp only
  cases hc:(S.of d).2.consts (S.of d).1 with
  | none => exact ⟨v, g, fun t ht => rfl⟩
  | some x =>
   dsimp only
   cases hi:asImm x with
   | none => exact ⟨v, g, fun t ht => rfl⟩
   | some i =>
    refine ⟨v, g, fun t ht => ?_⟩
    obtain ⟨_, _, q3, q4⟩:=g.inv.cs _ _ hc
    have e:i % 4294967296 = t.regs d:=by rw [asImm_mod q4 hi, ← q3, h3, ht]
    show t.calc o.nm a (t.regs b) (i % 4294967296) = t.calc o.nm a (t.regs b) (t.regs d)
    rw [e]
 | _ => exact ⟨val, Grow.refl h, fun t ht => rfl⟩
theorem updF_ne {f:Int → Int} {a v x:Int} (h:a ≠ x):updF f a v x = f x:=if_neg h
theorem ne_far {p x:Int} {n:Nat} (h:x < p ∨ p + (n + 1:Nat) ≤ x):p + n ≠ x:=fun z => by
 rcases h with h | h
 ·exact absurd (z ▸ h) (Int.not_lt.mpr (Int.le_add_of_nonneg_right (Int.natCast_nonneg n)))
 ·exact absurd (Int.lt_of_lt_of_le (Int.add_lt_add_left (Int.ofNat_lt.mpr (Nat.lt_succ_self n)) p) (z ▸ h)) (Int.lt_irrefl _)
theorem putN_out {m:Int → Int} {p v x:Int} (n:Nat):(x < p ∨ p + n ≤ x) → putN m p v n x = m x:=by
 induction n with
 | zero => intro _; rfl
 | succ n ih =>
  intro h
  exact (updF_ne (ne_far h)).trans (ih (h.imp_right fun q => Int.le_trans (Int.add_le_add_left (Int.ofNat_le.mpr (Nat.le_succ n)) p) q))
theorem by4 (a b c d:Int):a * 1 + (b * 256 + (c * 65536 + (d * 16777216 + 0))) = a + 256 * (b + 256 * (c + 256 * d)):=by omega
theorem wordN4 (m:Int → Int) (p:Int):wordN m p 4 = m p + 256 * (m (p + 1) + 256 * (m (p + 2) + 256 * m (p + 3))):=by
 show m (p + 0) * 1 + (m (p + 1) * 256 + (m (p + 2) * 65536 + (m (p + 3) * 16777216 + 0))) = _
 rw [Int.add_zero, by4]
theorem put4 (m:Int → Int) (p v x:Int):putN m p v 4 x = if p + 3 = x then v / 256 / 256 / 256 % 256 else if p + 2 = x then v / 256 / 256 % 256 else if p + 1 = x then v / 256 % 256 else if p = x then v % 256 else m x:=by
 show (if p + 3 = x then v / 16777216 % 256 else if p + 2 = x then v / 65536 % 256 else if p + 1 = x then v / 256 % 256 else if p + 0 = x then v / 1 % 256 else m x) = _
 have e2:v / 256 / 256 = v / 65536:=Int.ediv_ediv_of_nonneg (by decide)
 have e3:v / 65536 / 256 = v / 16777216:=Int.ediv_ediv_of_nonneg (by decide)
 rw [Int.add_zero, Int.ediv_one, e2, e3]
theorem put1 (m:Int → Int) (p v x:Int):putN m p v 1 x = if p = x then v % 256 else m x:=by
 show (if p + 0 = x then v / 1 % 256 else m x) = _
 rw [Int.add_zero, Int.ediv_one]
theorem far {p a b:Int} (h:a ≠ b):¬ p + a = p + b:=fun z => h (Int.add_left_cancel z)
theorem far0 {p a:Int} (h:a ≠ 0):¬ p + a = p:=fun z => h (Int.add_left_cancel (z.trans (Int.add_zero p).symm))
theorem word_put {m:Int → Int} {p v:Int} (hv:Rg v):wordN (putN m p v 4) p 4 = v:=by
 have b3:v / 256 / 256 / 256 % 256 = v / 256 / 256 / 256:=Int.emod_eq_of_lt (Int.ediv_nonneg (Int.ediv_nonneg (Int.ediv_nonneg hv.1 (by decide)) (by decide)) (by decide)) (Int.ediv_lt_of_lt_mul (by decide) (Int.ediv_lt_of_lt_mul (by decide) (Int.ediv_lt_of_lt_mul (by decide) hv.2)))
 have dm:∀ a:Int, a % 256 + 256 * (a / 256) = a:=fun a => Int.emod_add_mul_ediv a 256
 rw [wordN4, put4, put4, put4, put4, if_neg (far0 (by decide)), if_neg (far0 (by decide)), if_neg (far0 (by decide)), if_pos rfl, if_neg (far (by decide)), if_neg (far (by decide)), if_pos rfl, if_neg (far (by decide)), if_pos rfl, if_pos rfl, b3, dm, dm, dm]
theorem by8 {a b:Int} (h:0 ≤ a ∧ a < 256):(a + 256 * b) % 256 = a ∧ (a + 256 * b) / 256 = b :=
 ⟨(Int.add_mul_emod_self_left a 256 b).trans (Int.emod_eq_of_lt h.1 h.2), (Int.add_mul_ediv_left a b (by decide)).trans (by rw [Int.ediv_eq_zero_of_lt h.1 h.2, Int.zero_add])⟩
theorem put_word {m:Int → Int} {p:Int} (hm:∀ x, 0 ≤ m x ∧ m x < 256):putN m p (wordN m p 4) 4 = m:=by
 funext x
 rw [put4, wordN4, (by8 (hm p)).1, (by8 (hm p)).2, (by8 (hm (p + 1))).1, (by8 (hm (p + 1))).2, (by8 (hm (p + 2))).1, (by8 (hm (p + 2))).2, Int.emod_eq_of_lt (hm (p + 3)).1 (hm (p + 3)).2]
 refine iteInduction (motive:=(· = m x)) (congrArg m) fun _ => iteInduction (motive:=(· = m x)) (congrArg m) fun _ => iteInduction (motive:=(· = m x)) (congrArg m) fun _ => iteInduction (motive:=(· = m x)) (congrArg m) fun _ => rfl
theorem wordN_congr {m m':Int → Int} {p:Int} {n:Nat} (h:∀ x, p ≤ x → x < p + n → m x = m' x):wordN m p n = wordN m' p n :=
 congrArg List.sum (List.map_congr_left fun j hj => by rw [h (p + j) (Int.le_add_of_nonneg_right (Int.natCast_nonneg j)) (Int.add_lt_add_left (Int.ofNat_lt.mpr (List.mem_range.mp hj)) p)])
theorem word_out {m:Int → Int} {p q v:Int} {n:Nat} (h:q + 4 ≤ p ∨ p + n ≤ q):wordN (putN m p v n) q 4 = wordN m q 4 :=
 wordN_congr fun x h1 h2 => putN_out n (h.imp (fun z => Int.lt_of_lt_of_le h2 z) fun z => Int.le_trans z h1)
theorem span_apart {v c1 c2 n1 n2:Int} (h:apartB c1 n1 c2 n2 = true) (b1:0 ≤ c1 ∧ c1 ≤ 8) (b2:0 ≤ c2 ∧ c2 ≤ 8) (m1:1 ≤ n1 ∧ n1 ≤ 4) (m2:1 ≤ n2 ∧ n2 ≤ 4) :
  (v + c1) % 4294967296 + n1 ≤ (v + c2) % 4294967296 ∨ (v + c2) % 4294967296 + n2 ≤ (v + c1) % 4294967296:=by
 unfold apartB at h
 simp only [Bool.or_eq_true, decide_eq_true_eq] at h
 omega
end Mini
end
section
namespace Mini
open PySem PySem.W PyProof.Rows
variable {val val':Int → Int} {S S':VS} {rg mm:Int → Int} {s t:St} {d d0:Bool}
structure Sim (d:Bool) (s t:St):Prop where
 regs:t.regs = s.regs
 mem:t.mem = s.mem
 high:t.high = s.high
 flags:d = false → t.flags = s.flags
theorem Sim.step (h:Sim d0 s t) {k:Kd} {a b c:Int} (hd:k.mem = true → d = false → d0 = false):Sim d (s.step k a b c) (t.step k a b c):=by
 obtain ⟨r1, m1, f1, h1⟩:=s
 obtain ⟨r2, m2, f2, h2⟩:=t
 obtain ⟨e1, e2, e3, e4⟩:=h
 dsimp only at e1 e2 e3 e4
 subst e1 e2 e3
 cases k with
 | ldr => exact ⟨rfl, rfl, rfl, fun z => e4 (hd rfl z)⟩
 | ldb => exact ⟨rfl, rfl, rfl, fun z => e4 (hd rfl z)⟩
 | str => exact ⟨rfl, rfl, rfl, fun z => e4 (hd rfl z)⟩
 | stb => exact ⟨rfl, rfl, rfl, fun z => e4 (hd rfl z)⟩
 | _ => exact ⟨rfl, rfl, rfl, fun _ => rfl⟩
noncomputable def St.out (t:St):Option Row → St
 | none => t
 | some r => t.stepR r
theorem getD_some {o:Option Int} {n:Int} (hn:0 < n) (e:o.getD 0 = n):o = some n:=by
 cases o with
 | none => exact absurd hn (e ▸ Int.lt_irrefl _)
 | some m => exact congrArg some e
theorem hold_val {f:Int → Option Int} {n a:Int}:∀ rs, holdAt f n a rs ≥ 0 → (f (holdAt f n a rs)).getD 0 = n:=by
 intro rs
 induction rs with
 | nil => intro h; exact absurd (show (-1:Int) ≥ 0 from h) (by decide)
 | cons r rs ih =>
  by_cases q:r ≠ a ∧ (f r).getD 0 = n
  ·rw [hold_yes q]; exact fun _ => q.2
  ·rw [hold_no q]; exact ih
theorem reg_val (h:Inv val S s.regs) {n a:Int} (hn:0 < n) (e:(S.regs a).getD 0 = n):s.regs a = val n:=(h.rg _ _ (getD_some hn e)).2.2
theorem holder_val (h:Inv val S s.regs) {n a:Int} (hn:0 < n) (hh:S.holder n a ≥ 0):s.regs (S.holder n a) = val n:=reg_val h hn (hold_val regs16 hh)
theorem lhigh_none {nm:Str} (h:nm ≠ "MUL") (x y:Int):lhigh nm x y = none:=if_neg h
theorem Sim.mov {u:St} {a x v:Int} (h1:u.regs = updF s.regs a v) (h2:u.mem = s.mem) (h3:u.high = s.high) (h:Sim d0 s t) (hd:d = true):Sim d u (t.calc (Str.ofString "MOV") a x v):=by
 refine ⟨?_, h.mem.trans h2.symm, ?_, fun z => absurd (hd.symm.trans z).symm Bool.false_ne_true⟩
 ·show updF t.regs a (lfound _ _ _) = _; rw [mov_found, h.regs, h1]
 ·unfold St.calc
  rw [lhigh_none ofs_ne, h3]; exact h.high
noncomputable def Done (d:Bool) (p:Option Row × VS) (u t:St):Prop:=∃ val', Inv val' p.2 u.regs ∧ Wd val' p.2 u.mem ∧ Sim d u (t.out p.1)
theorem load_step {k:Kd} (hk:k.load = true):∃ nb:Nat, (∀ (s:St) (a b c:Int), s.step k a b c = { s with regs:=updF s.regs a (wordN s.mem (s.spot b c) nb) }) ∧ k.bytes = nb ∧ (1 ≤ (nb:Int) ∧ (nb:Int) ≤ 4) ∧ (k = .ldr → nb = 4):=by
 rcases mem_load k (mem_allKd k) hk with rfl | rfl
 ·exact ⟨4, fun _ _ _ _ => rfl, rfl, by decide, fun _ => rfl⟩
 ·exact ⟨1, fun _ _ _ _ => rfl, rfl, by decide, fun z => nomatch z⟩
theorem row_load {k:Kd} {a b c:Int} (hk:k.load = true) (ok:(Row.ins k a b c).Ok) (h:Inv val S s.regs) (w:Wd val S s.mem) (sm:Sim d s t):Done d (S.load k a b c d) (s.step k a b c) t:=by
 obtain ⟨v1, g1, p1, p2, p3⟩:=grow_of h b
 have w1:=g1.wd w
 obtain ⟨c0, c8⟩:=ok.2.2.2.2.1 (by unfold Kd.mem; rw [hk]; rfl)
 have es:s.spot b c = (v1 (S.of b).1 + c) % 4294967296:=by rw [p3]; rfl
 obtain ⟨nb, hm, _, _, h4⟩:=load_step hk
 have hx:=hm s a b c
 have hl:k = .ldr → wordN s.mem (s.spot b c) nb = wordN s.mem (s.spot b c) 4:=fun z => by rw [h4 z]
 generalize wordN s.mem (s.spot b c) nb = x at hx hl
 have same:Sim d (s.step k a b c) (t.step k a b c):=sm.step fun _ z => z
 cases hw:(if k = .ldb then none else (S.of b).2.words ((S.of b).1, c)) with
 | none =>
  rw [VS.load_new hw]
  obtain ⟨v2, g2, q⟩:=grow_fresh g1.inv x
  have i3:=g2.inv.setReg (a:=a) (n:=(S.of b).2.count + 1) (v:=x) (one_pos g1.inv.pos) (Int.le_refl _) q
  refine ⟨v2, by rw [hx]; exact ⟨i3.pos, i3.rg, i3.cs, i3.nm, i3.tb⟩, ?_, same⟩
  rw [hx]
  have w2:=g2.wd w1
  intro y n e
  have e:(if k = .ldr then upd (S.of b).2.words ((S.of b).1, c) ((S.of b).2.count + 1) else (S.of b).2.words) y = some n:=e
  by_cases hl':k = .ldr
  ·rw [if_pos hl'] at e
   rcases upd_some e with ⟨rfl, rfl⟩ | ⟨_, e⟩
   ·refine ⟨one_pos g1.inv.pos, Int.le_refl _, le1 p2, c0, c8, ?_⟩
    show wordN s.mem _ 4 = _
    rw [q, hl hl', es, g2.agree _ p2]
   ·exact w2 y n e
  ·rw [if_neg hl'] at e; exact w2 y n e
 | some n =>
  rw [VS.load_old hw]
  obtain rfl:k = .ldr:=(mem_load k (mem_allKd k) hk).resolve_right fun z => by rw [if_pos z] at hw; exact nomatch hw
  rw [if_neg (by decide)] at hw
  obtain ⟨n0, n1, _, _, _, wv⟩:=w1 _ _ hw
  have hxv:x = v1 n:=by rw [hl rfl, es]; exact wv
  refine ⟨v1, by rw [hx]; exact g1.inv.setReg (a:=a) n0 n1 hxv.symm, by rw [hx]; exact w1, ?_⟩
  show Sim d _ (t.out ((S.of b).2.loadOld .ldr a b c n d))
  unfold VS.loadOld
  by_cases hr:((S.of b).2.regs a).getD 0 = n
  ·rw [if_pos hr, hx, updF_same ((reg_val g1.inv n0 hr).trans hxv.symm)]; exact sm
  ·rw [if_neg hr]
   by_cases hq:d = true ∧ (S.of b).2.holder n a ≥ 0
   ·rw [if_pos hq]
    show Sim d _ (t.calc (Str.ofString "MOV") a (t.regs 0) (t.regs ((S.of b).2.holder n a)))
    rw [sm.regs, holder_val g1.inv (a:=a) n0 hq.2, ← hxv, hx]
    exact Sim.mov rfl rfl rfl sm hq.1
   ·rw [if_neg hq]; exact same
theorem store_step {k:Kd} (hk:k.store = true):∃ nb:Nat, (∀ (s:St) (a b c:Int), s.step k a b c = { s with mem:=putN s.mem (s.spot b c) (s.regs a) nb }) ∧ k.bytes = nb ∧ (1 ≤ (nb:Int) ∧ (nb:Int) ≤ 4) ∧ (k = .str → nb = 4):=by
 rcases mem_store k (mem_allKd k) hk with rfl | rfl
 ·exact ⟨4, fun _ _ _ _ => rfl, rfl, by decide, fun _ => rfl⟩
 ·exact ⟨1, fun _ _ _ _ => rfl, rfl, by decide, fun z => nomatch z⟩
theorem row_store {k:Kd} {a b c:Int} (hk:k.store = true) (ok:(Row.ins k a b c).Ok) (h:Inv val S s.regs) (w:Wd val S s.mem) (G:s.Good) (sm:Sim d s t):Done d (S.store k a b c) (s.step k a b c) t:=by
 obtain ⟨v1, g1, p1, p2, p3⟩:=grow_of h b
 obtain ⟨v2, g2, q1, q2, q3⟩:=grow_of g1.inv a
 have w2:=g2.wd (g1.wd w)
 have cb:=ok.2.2.2.2.1 (by unfold Kd.mem; rw [hk, Bool.or_true])
 have es:s.spot b c = (v2 (S.of b).1 + c) % 4294967296:=by rw [g2.agree _ p2, p3]; rfl
 obtain ⟨nb, hm, hb, hn, h4⟩:=store_step hk
 have same:Sim d (s.step k a b c) (t.step k a b c):=sm.step fun _ z => z
 rw [hm s] at same ⊢
 by_cases hq:k = .str ∧ (((S.of b).2.of a).2.words ((S.of b).1, c)).getD 0 = ((S.of b).2.of a).1
 ·rw [show S.store k a b c = (none, ((S.of b).2.of a).2) from if_pos hq]
  obtain ⟨_, _, _, _, _, wv⟩:=w2 _ _ (getD_some q1 hq.2)
  have e:putN s.mem (s.spot b c) (s.regs a) nb = s.mem:=by
   rw [h4 hq.1, show s.regs a = wordN s.mem (s.spot b c) 4 from q3.symm.trans (wv.symm.trans (by rw [es])), put_word G.mem]
  rw [e]
  exact ⟨v2, g2.inv, w2, sm⟩
 ·rw [show S.store k a b c = (some (.ins k a b c), if k = .str then { ((S.of b).2.of a).2.forget (S.of b).1 k c with words:=upd (((S.of b).2.of a).2.forget (S.of b).1 k c).words ((S.of b).1, c) ((S.of b).2.of a).1 } else ((S.of b).2.of a).2.forget (S.of b).1 k c) from if_neg hq]
  have keep:Wd v2 (((S.of b).2.of a).2.forget (S.of b).1 k c) (putN s.mem (s.spot b c) (s.regs a) nb):=by
   intro y n e
   by_cases hy:y.1 = (S.of b).1 ∧ apartB y.2 4 c k.bytes = true
   ·obtain ⟨y1, y2, y3, y4, y5, y6⟩:=w2 y n ((if_pos hy).symm.trans e)
    refine ⟨y1, y2, y3, y4, y5, (word_out ?_).trans y6⟩
    rw [es, hy.1]
    exact span_apart (hb ▸ hy.2) ⟨y4, y5⟩ cb (by decide) hn
   ·exact nomatch (if_neg hy).symm.trans e
  by_cases hs:k = .str
  ·rw [if_pos hs]
   refine ⟨v2, ⟨g2.inv.pos, g2.inv.rg, g2.inv.cs, g2.inv.nm, g2.inv.tb⟩, fun y n e => ?_, same⟩
   rcases upd_some e with ⟨rfl, rfl⟩ | ⟨_, e⟩
   ·refine ⟨q1, q2, Int.le_trans p2 g2.le, cb.1, cb.2, ?_⟩
    show wordN (putN s.mem (s.spot b c) (s.regs a) nb) _ 4 = _
    rw [h4 hs, ← es, word_put (G.regs a ok.1 ok.2.1), q3]
   ·exact keep y n e
  ·rw [if_neg hs]
   exact ⟨v2, ⟨g2.inv.pos, g2.inv.rg, g2.inv.cs, g2.inv.nm, g2.inv.tb⟩, keep, same⟩
end Mini
end
section
namespace Mini
open PySem PySem.W PyProof.Rows
variable {val val':Int → Int} {S S':VS} {rg mm:Int → Int} {s t:St} {d d0:Bool} {fx:Int → Bool} {i:Nat}
theorem pn_nm:∀ k ∈ allKd, k.base ≠ Str.ofString "MUL" → k.pn ≠ Str.ofString "MUL":=by decide +kernel
theorem pn_mul {k:Kd} (h:k.base ≠ "MUL") (x y:Int):lhigh k.pn x y = none:=lhigh_none (pn_nm k (mem_allKd k) h) x y
theorem keep_nm:∀ k ∈ allKd, keepsM k.base = true ∨ k = .movh → k.pn ≠ Str.ofString "ADD" ∧ k.pn ≠ Str.ofString "SUB" ∧ k.pn ≠ Str.ofString "MUL":=by decide +kernel
theorem no_carry {nm:Str} (h:nm ≠ Str.ofString "ADD" ∧ nm ≠ Str.ofString "SUB" ∧ nm ≠ Str.ofString "MUL") (x y:Int):lcarry nm x y = 0 ∧ lover nm x y = 0 :=
 ⟨(if_neg h.1).trans (if_neg h.2.1), (if_neg h.1).trans ((if_neg h.2.1).trans (if_neg h.2.2))⟩
theorem short_sim {k:Kd} {a b c y x:Int} (hk:k.mem = false) (hb:k.base ≠ "MUL") (sm:Sim d0 s t) (hx:x = lfound k.pn (s.regs b) (s.right k c)) (hd:d = true ∨ keepsM k.base = true ∨ k = .movh):Sim d (s.step k a b c) (t.calc (Str.ofString "MOV") a y x):=by
 rw [step_calc hk]
 refine ⟨?_, sm.mem, ?_, fun z => ?_⟩
 ·show updF t.regs a (lfound _ _ _) = updF s.regs a (lfound _ _ _); rw [mov_found, sm.regs, hx]
 ·unfold St.calc
  rw [lhigh_none ofs_ne, pn_mul hb]; exact sm.high
 ·rcases hd with q | q
  ·exact absurd (z.symm.trans q) Bool.false_ne_true
  ·obtain ⟨q1, q2⟩:=no_carry (keep_nm k (mem_allKd k) q) (s.regs b) (s.right k c)
   obtain ⟨m1, m2⟩:=no_carry (nm:=Str.ofString "MOV") ⟨ofs_ne, ofs_ne, ofs_ne⟩ y x
   unfold St.calc lflags
   rw [mov_found, q1, q2, m1, m2, hx]
theorem row_calc {k:Kd} {a b c:Int} (hk:k.mem = false) (ok:(Row.ins k a b c).Ok) (h:Inv val S s.regs) (w:Wd val S s.mem) (sm:Sim d0 s t) :
  Done d (((S.result k a b c).2.better k a b c (S.result k a b c).1 d).1, { ((S.result k a b c).2.better k a b c (S.result k a b c).1 d).2 with regs:=upd ((S.result k a b c).2.better k a b c (S.result k a b c).1 d).2.regs a (S.result k a b c).1 }) (s.step k a b c) t:=by
 obtain ⟨v1, g1, n0, n1, n2⟩:=grow_result h (a:=a) (b:=b) (d:=c) hk ok.movh
 have same:Sim d (s.step k a b c) (t.step k a b c):=sm.step fun z => absurd (hk.symm.trans z) Bool.false_ne_true
 have short:=fun (hb:k.base ≠ "MUL") y => short_sim (d:=d) (a:=a) (b:=b) (c:=c) (y:=y) hk hb sm rfl
 generalize hS1:(S.result k a b c).2 = S1 at *
 generalize hn:(S.result k a b c).1 = n at *
 have ec:s.step k a b c = s.calc k.pn a (s.regs b) (s.right k c):=step_calc hk
 generalize hx:lfound k.pn (s.regs b) (s.right k c) = x at n2 short
 have er:(s.step k a b c).regs = updF s.regs a x:=by rw [ec, ← hx]; rfl
 have stay:∀ o, Sim d (s.step k a b c) (t.out o) → Done d (o, { S1 with regs:=upd S1.regs a n }) (s.step k a b c) t:=fun o q =>
  ⟨v1, by rw [er]; exact g1.inv.setReg (a:=a) n0 n1 n2, by rw [ec]; exact g1.wd w, q⟩
 refine better_all (C:=fun p => Done d (p.1, { p.2 with regs:=upd p.2.regs a n }) (s.step k a b c) t) ?_ (fun hb hd hr => stay none ?_) fun hb r hr => stay (some r) ?_
 ·obtain ⟨v2, g2, ht⟩:=grow_imm g1.inv (k:=k) (a:=a) (b:=b) (d:=c)
  refine ⟨v2, by rw [er]; exact g2.inv.setReg (a:=a) n0 (Int.le_trans n1 g2.le) ((g2.agree _ n1).trans n2), by rw [ec]; exact g2.wd (g1.wd w), ?_⟩
  show Sim d _ (t.stepR (S1.imm k a b c).1)
  rw [ht t sm.regs]; exact same
 ·have e:=(reg_val g1.inv n0 hr).trans n2
  refine ⟨?_, ?_, ?_, fun z => absurd (z.symm.trans hd) Bool.false_ne_true⟩
  ·rw [er, updF_same e]; exact sm.regs
  ·rw [ec]; exact sm.mem
  ·rw [ec]; unfold St.calc; rw [pn_mul hb]; exact sm.high
 ·obtain ⟨hd, hq⟩:=short_some hr
  rcases hq with ⟨x', i, hc, hi, rfl⟩ | ⟨hh, rfl⟩
  ·obtain ⟨_, _, q3, q4⟩:=g1.inv.cs _ _ hc
   show Sim d _ (t.calc (Str.ofString "MOV") a (t.regs 0) (i % 4294967296))
   rw [asImm_mod q4 hi, ← q3, n2]
   exact short hb _ hd
  ·show Sim d _ (t.calc (Str.ofString "MOV") a (t.regs 0) (t.regs (S1.holder n a)))
   rw [sm.regs, holder_val g1.inv (a:=a) n0 hh, n2]
   exact short hb _ hd
theorem reg_step:∀ k ∈ allKd, k.store = false → ∀ (s:St) (a b c:Int), ∃ x, (s.step k a b c).regs = updF s.regs a x ∧ (s.step k a b c).mem = s.mem:=by
 intro k _ h s a b c
 cases hm:k.mem with
 | false => exact ⟨_, by rw [step_calc hm]; rfl, by rw [step_calc hm]; rfl⟩
 | true =>
  obtain ⟨nb, hx, _⟩:=load_step (k:=k) (by unfold Kd.mem at hm; rw [h, Bool.or_false] at hm; exact hm)
  exact ⟨_, by rw [hx], by rw [hx]⟩
theorem row_fixed {k:Kd} {a b c c':Int} (h:Inv val S s.regs):∃ val', Inv val' (S.fixed (.ins k a b c)) (s.step k a b c').regs ∧ (Wd val S s.mem → Wd val' (S.fixed (.ins k a b c)) (s.step k a b c').mem):=by
 cases hs:k.store with
 | true =>
  obtain ⟨nb, hm, _⟩:=store_step hs
  rw [show S.fixed (.ins k a b c) = _ from if_pos hs, hm]
  exact ⟨val, ⟨h.pos, h.rg, h.cs, h.nm, h.tb⟩, fun w x n e => nomatch e⟩
 | false =>
  obtain ⟨x, h1, h2⟩:=reg_step k (mem_allKd k) hs s a b c'
  rw [show S.fixed (.ins k a b c) = _ from if_neg (by rw [hs]; decide), h1, h2]
  obtain ⟨v2, g2, q⟩:=grow_fresh h x
  exact ⟨v2, g2.inv.setReg (a:=a) (n:=S.count + 1) (v:=x) (one_pos h.pos) (Int.le_refl _) q, fun w => g2.wd w⟩
theorem St.same {s t:St} (h:Sim false s t):t = s:=by
 obtain ⟨r1, m1, f1, h1⟩:=s
 obtain ⟨r2, m2, f2, h2⟩:=t
 obtain ⟨e1, e2, e3, e4⟩:=h
 obtain rfl:r2 = r1:=e1
 obtain rfl:m2 = m1:=e2
 obtain rfl:h2 = h1:=e3
 obtain rfl:f2 = f1:=e4 rfl
 rfl
noncomputable def goR (f:Bool) (t:St):Option Row → St
 | none => t
 | some (.ins k a b d) => t.step k a b (if f = true then d + 8 else d)
 | some (.trap ..) => t
theorem runL_go {o:Option Row} {xs:List (Option Row)} (h:∀ r, o = some r → r.ctl = false):runL fx i (o :: xs) t = runL fx (i + 1) xs (goR (fx i) t o):=by
 cases o with
 | none => rfl
 | some r =>
  cases r with
  | trap => exact nomatch h _ rfl
  | ins => rfl
theorem go_out {f:Bool} (hf:¬ f = true) {o:Option Row}:goR f t o = t.out o:=by
 cases o with
 | none => rfl
 | some r =>
  cases r with
  | trap => rfl
  | ins k a b d => exact congrArg (t.step k a b) (if_neg hf)
theorem good_step {k:Kd} {a b c:Int} {f:Bool} (G:s.Good) (ok:(Row.ins k a b c).Ok) (hf:f = true → k.regd = false):(s.step k a b (if f = true then c + 8 else c)).Good :=
 G.step ⟨ok.2.2.1, ok.2.2.2.1⟩ (fun hrd => by
  rw [if_neg fun z => absurd ((hf z).symm.trans hrd) Bool.false_ne_true]; exact ok.2.2.2.2.2 hrd) (fun hm => by
  rw [if_neg fun z => absurd (hf z).symm (by rw [hm]; decide)]; exact ok.movh hm)
theorem mem_fl:∀ k ∈ allKd, k.mem = true → k.fl = false:=by decide +kernel
theorem simp1_sim {k:Kd} {a b c:Int} {f:Bool} (ok:(Row.ins k a b c).Ok) (h:Inv val S s.regs) (w:Wd val S s.mem) (G:s.Good) (sm:Sim (if k.fl = true then true else d) s t) :
  ∃ val', Inv val' (S.simp1 f (.ins k a b c) d).2 (s.step k a b (if f = true then c + 8 else c)).regs ∧ Wd val' (S.simp1 f (.ins k a b c) d).2 (s.step k a b (if f = true then c + 8 else c)).mem ∧ Sim d (s.step k a b (if f = true then c + 8 else c)) (goR f t (S.simp1 f (.ins k a b c) d).1):=by
 have sm1:k.mem = true → Sim d s t:=fun z => by rw [mem_fl k (mem_allKd k) z] at sm; exact sm
 by_cases hf:f = true
 ·rw [show S.simp1 f (.ins k a b c) d = _ from if_pos hf]
  obtain ⟨v, h', w'⟩:=row_fixed (k:=k) (a:=a) (b:=b) (c:=c) (c':=if f = true then c + 8 else c) h
  exact ⟨v, h', w' w, sm.step fun z q => by rw [mem_fl k (mem_allKd k) z]; exact q⟩
 ·rw [if_neg hf, go_out hf]
  show Done d (S.simp1 f (.ins k a b c) d) (s.step k a b c) t
  rw [show S.simp1 f (.ins k a b c) d = _ from if_neg hf]
  by_cases hl:k.load = true
  ·rw [if_pos hl]; exact row_load hl ok h w (sm1 (by unfold Kd.mem; rw [hl]; rfl))
  ·rw [if_neg hl]
   by_cases hs:k.store = true
   ·rw [if_pos hs]; exact row_store hs ok h w G (sm1 (by unfold Kd.mem; rw [hs, Bool.or_true]))
   ·rw [if_neg hs]; exact row_calc (by unfold Kd.mem; rw [Bool.eq_false_iff.mpr hl, Bool.eq_false_iff.mpr hs]; rfl) ok h w sm
theorem phase1 (fx:Int → Bool):∀ (rows:List Row) (i:Nat) (S:VS) (val:Int → Int) (s t:St), (∀ r ∈ rows, r.Ok) → (∀ (j:Nat) k a b c, rows[j]? = some (.ins k a b c) → fx ((i + j:Nat):Int) = true → k.regd = false) → Inv val S s.regs → Wd val S s.mem → s.Good → Sim (deads rows).2 s t →
  runL fx i (simpL S fx i rows (deads rows).1) t = runL fx i (rows.map some) s:=by
 intro rows
 induction rows with
 | nil => intro i S val s t ok hf h w G sm; rw [St.same (show Sim false s t from sm)]; rfl
 | cons r rs ih =>
  intro i S val s t ok hf h w G sm
  have ok':∀ r ∈ rs, r.Ok:=fun r hr => ok r (.tail _ hr)
  have hf':∀ (j:Nat) k a b c, rs[j]? = some (.ins k a b c) → fx ((i + 1 + j:Nat):Int) = true → k.regd = false:=fun j k a b c e hh => hf (j + 1) k a b c e (Nat.add_right_comm i 1 j ▸ hh)
  cases r with
  | trap cn n m =>
   have e:=St.same (show Sim false s t from sm)
   subst e
   show (if condH cn t.flags = true then (((i:Nat):Int), t) else runL fx (i + 1) (simpL S fx (i + 1) rs (deads rs).1) t) = if condH cn t.flags = true then (((i:Nat):Int), t) else runL fx (i + 1) (rs.map some) t
   rw [ih (i + 1) S val t t ok' hf' h w G ⟨rfl, rfl, rfl, fun _ => rfl⟩]
  | ins k a b c =>
   have ok1:=ok _ (.head _)
   obtain ⟨v, h', w', sm'⟩:=simp1_sim (f:=fx i) ok1 h w G (show Sim (if k.fl = true then true else (deads rs).2) s t from sm)
   show runL fx i ((S.simp1 (fx i) (.ins k a b c) (deads rs).2).1 :: simpL (S.simp1 (fx i) (.ins k a b c) (deads rs).2).2 fx (i + 1) rs (deads rs).1) t = runL fx (i + 1) (rs.map some) (s.step k a b (if fx i = true then c + 8 else c))
   rw [runL_go simp1_ctl]
   exact ih (i + 1) _ v _ _ ok' hf' h' w' (good_step G ok1 (hf 0 k a b c rfl)) sm'
end Mini
end
section
namespace Mini
open PySem PySem.W PyProof.Rows
noncomputable def cut (D:List Int):Nat → List (Option Row) → List (Option Row)
 | _, [] => []
 | i, r :: rs => (if ((i:Nat):Int) ∈ D then none else r) :: cut D (i + 1) rs
variable {val val':Int → Int} {S S':VS} {rg mm:Int → Int} {s t:St} {d d0:Bool} {pend:Pend} {D:List Int} {i:Nat} {fx:Int → Bool} {rs:List (Option Row)}
structure PendOk (S:VS) (pend:Pend) (i:Nat):Prop where
 lt:∀ p x, pend p = some x → 0 ≤ x ∧ x < i ∧ p.1 ≤ S.count ∧ 0 ≤ p.2 ∧ p.2 ≤ 8
 inj:∀ p q x, pend p = some x → pend q = some x → p = q
noncomputable def inSpan (val:Int → Int) (p:Int × Int) (x:Int):Prop:=(val p.1 + p.2) % 4294967296 ≤ x ∧ x < (val p.1 + p.2) % 4294967296 + 4
structure Sim2 (val:Int → Int) (pend:Pend) (D:List Int) (s t:St):Prop where
 regs:t.regs = s.regs
 flags:t.flags = s.flags
 high:t.high = s.high
 mem:∀ x, t.mem x = s.mem x ∨ ∃ p y, pend p = some y ∧ y ∈ D ∧ inSpan val p x
noncomputable def Found (fx:Int → Bool) (S:VS) (pend:Pend) (i:Nat) (rs:List (Option Row)) (D:List Int):Prop:=∀ x:Int, ((i:Int) ≤ x ∨ ∃ p, pend p = some x) → (x ∈ D ↔ x ∈ covL fx S pend i rs)
theorem St.eq2 (h:Sim2 val pend D s t) (hn:∀ p y, pend p = some y → y ∉ D):t = s:=by
 have:t.mem = s.mem:=funext fun x => (h.mem x).resolve_right fun ⟨p, y, q1, q2, _⟩ => hn p y q1 q2
 exact St.same ⟨h.regs, this, h.high, fun _ => h.flags⟩
theorem no_succ {i:Nat} {x:Int} (h:((i + 1:Nat):Int) ≤ x) (h':x ≤ i):False:=absurd (Int.le_trans h h') (Int.not_le.mpr (Int.ofNat_lt.mpr (Nat.lt_succ_self i)))
theorem of_succ {i:Nat} {x:Int} (h:((i + 1:Nat):Int) ≤ x):(i:Int) ≤ x:=Int.le_trans (Int.ofNat_le.mpr (Nat.le_succ i)) h
theorem lt_succ {i:Nat} {x:Int} (h:x ≤ i):x < ((i + 1:Nat):Int):=Int.lt_of_le_of_lt h (Int.ofNat_lt.mpr (Nat.lt_succ_self i))
theorem Sim2.refl {s:St}:Sim2 val pend D s s:=⟨rfl, rfl, rfl, fun _ => .inl rfl⟩
theorem PendOk.none_ {S:VS} {i:Nat}:PendOk S (fun _ => none) i:=⟨(fun p x e => nomatch e), fun p q x e => nomatch e⟩
theorem PendOk.up (h:PendOk S pend i) (l:S.count ≤ S'.count):PendOk S' pend (i + 1):=⟨fun p x e => by obtain ⟨h0, h1, h2, h3, h4⟩:=h.lt p x e; exact ⟨h0, lt_succ (Int.le_of_lt h1), Int.le_trans h2 l, h3, h4⟩, h.inj⟩
theorem Sim2.agree {c:Int} (h:Sim2 val pend D s t) (hp:∀ p x, pend p = some x → p.1 ≤ c) (ag:Agree val val' c):Sim2 val' pend D s t :=
 ⟨h.regs, h.flags, h.high, fun x => by
  rcases h.mem x with q | ⟨p, y, q1, q2, q3⟩
  ·exact .inl q
  ·refine .inr ⟨p, y, q1, q2, ?_⟩
   unfold inSpan at q3 ⊢
   rw [ag _ (hp p y q1)]; exact q3⟩
theorem spot_eq (h:t.regs = s.regs) (b d:Int):t.spot b d = s.spot b d:=by unfold St.spot; rw [h]
theorem sim2_calc {k:Kd} {a b c:Int} (hk:k.mem = false) (h:Sim2 val pend D s t):Sim2 val pend D (s.step k a b c) (t.step k a b c):=by
 rw [step_calc hk, step_calc hk]
 have er:t.right k c = s.right k c:=by cases k <;> first | rfl | exact h.high | exact congrFun h.regs c
 rw [er, h.regs]
 refine ⟨?_, rfl, ?_, h.mem⟩
 ·show updF t.regs a _ = updF s.regs a _; rw [h.regs]
 ·show (lhigh _ _ _).getD t.high = (lhigh _ _ _).getD s.high; rw [h.high]
theorem found_clear (hp:PendOk S pend i) {S2:VS} {o:Option Row} (he:covL fx S pend i (o :: rs) = covL fx S2 (fun _ => none) (i + 1) rs) (hF:Found fx S pend i (o :: rs) D):(∀ p y, pend p = some y → y ∉ D) ∧ (i:Int) ∉ D ∧ Found fx S2 (fun _ => none) (i + 1) rs D:=by
 have key:∀ x:Int, x ≤ i → x ∉ covL fx S2 (fun _ => none) (i + 1) rs:=fun x hx h => (covL_mem rs S2 _ (i + 1) x h).elim (fun ⟨p, q⟩ => nomatch q) fun q => no_succ q.1 hx
 refine ⟨fun p y e z => key y (Int.le_of_lt (hp.lt p y e).2.1) ?_, fun z => key i (Int.le_refl _) ?_, fun x hx => ?_⟩
 ·rw [← he]; exact (hF y (.inr ⟨p, e⟩)).mp z
 ·rw [← he]; exact (hF i (.inl (Int.le_refl _))).mp z
 ·rcases hx with h | ⟨p, e⟩
  ·rw [← he]; exact hF x (.inl (of_succ h))
  ·exact nomatch e
theorem found_keep (hp:PendOk S pend i) {S2:VS} {pend2:Pend} {o:Option Row} (hsub:∀ p y, pend2 p = some y → pend p = some y) (he:covL fx S pend i (o :: rs) = covL fx S2 pend2 (i + 1) rs) (hF:Found fx S pend i (o :: rs) D) :
  (∀ p y, pend p = some y → y ∈ D → pend2 p = some y) ∧ (i:Int) ∉ D ∧ Found fx S2 pend2 (i + 1) rs D:=by
 refine ⟨fun p y e z => ?_, fun z => ?_, fun x hx => ?_⟩
 ·have z:=he ▸ (hF y (.inr ⟨p, e⟩)).mp z
  rcases covL_mem rs S2 _ (i + 1) y z with ⟨q, e2⟩ | q
  ·rw [hp.inj p q y e (hsub q y e2)]; exact e2
  ·exact (no_succ q.1 (Int.le_of_lt (hp.lt p y e).2.1)).elim
 ·have z:=he ▸ (hF i (.inl (Int.le_refl _))).mp z
  rcases covL_mem rs S2 _ (i + 1) i z with ⟨q, e2⟩ | q
  ·exact absurd (hp.lt q i (hsub q i e2)).2.1 (Int.lt_irrefl _)
  ·exact no_succ q.1 (Int.le_refl _)
 ·rw [← he]
  exact hF x (hx.imp of_succ fun ⟨p, e⟩ => ⟨p, hsub p x e⟩)
theorem PendOk.sub {pend2:Pend} (h:PendOk S pend i) (hsub:∀ p y, pend2 p = some y → pend p = some y):PendOk S pend2 i:=⟨fun p x e => h.lt p x (hsub p x e), fun p q x e e' => h.inj p q x (hsub p x e) (hsub q x e')⟩
theorem Sim2.thin {pend2:Pend} (h:Sim2 val pend D s t) (hs:∀ p y, pend p = some y → y ∈ D → pend2 p = some y):Sim2 val pend2 D s t :=
 ⟨h.regs, h.flags, h.high, fun x => by
  rcases h.mem x with q | ⟨p, y, q1, q2, q3⟩
  ·exact .inl q
  ·exact .inr ⟨p, y, hs p y q1 q2, q2, q3⟩⟩
theorem put_in {m m':Int → Int} {p v x:Int} (n:Nat) (h:p ≤ x):x < p + n → putN m p v n x = putN m' p v n x:=by
 induction n with
 | zero => intro q; exact absurd (Int.lt_of_le_of_lt h q) (by rw [show ((0:Nat):Int) = 0 from rfl, Int.add_zero]; exact Int.lt_irrefl _)
 | succ n ih =>
  intro q
  by_cases e:p + n = x
  ·exact (if_pos e).trans (if_pos e).symm
  ·exact (updF_ne e).trans ((ih (Int.lt_iff_le_and_ne.mpr ⟨Int.le_of_lt_add_one (by rw [Int.add_assoc]; exact q), Ne.symm e⟩)).trans (updF_ne e).symm)
theorem store_pending {p:Int × Int} {v:Int} {y0:Int} (h:Sim2 val pend D s t) (hin:pend p = some y0 ∨ True) (drop:Bool) (hd:drop = true → (i:Int) ∈ D) :
  Sim2 val (upd pend p i) D { s with mem:=putN s.mem ((val p.1 + p.2) % 4294967296) v 4 } (if drop = true then t else { t with mem:=putN t.mem ((val p.1 + p.2) % 4294967296) v 4 }):=by
 have out:∀ {m x}, ¬ inSpan val p x → putN m ((val p.1 + p.2) % 4294967296) v 4 x = m x:=fun {m x} hx => putN_out 4 ((Decidable.em (x < _)).imp_right fun q => Int.not_lt.mp fun z => hx ⟨Int.not_lt.mp q, z⟩)
 have old:∀ x, ¬ inSpan val p x → t.mem x = s.mem x ∨ ∃ q y, upd pend p i q = some y ∧ y ∈ D ∧ inSpan val q x:=fun x hx => (h.mem x).imp_right fun ⟨q, y, q1, q2, q3⟩ => ⟨q, y, (upd_ne fun z => hx (by rw [z]; exact q3)).trans q1, q2, q3⟩
 cases drop with
 | true =>
  refine ⟨h.regs, h.flags, h.high, fun x => ?_⟩
  by_cases hx:inSpan val p x
  ·exact .inr ⟨p, i, upd_at, hd rfl, hx⟩
  ·show t.mem x = putN s.mem _ v 4 x ∨ _
   rw [out hx]; exact old x hx
 | false =>
  refine ⟨h.regs, h.flags, h.high, fun x => ?_⟩
  show putN t.mem _ v 4 x = putN s.mem _ v 4 x ∨ _
  by_cases hx:inSpan val p x
  ·exact .inl (put_in 4 hx.1 hx.2)
  ·rw [out hx, out hx]; exact old x hx
end Mini
end
section
namespace Mini
open PySem PySem.W PyProof.Rows
variable {val val':Int → Int} {S S':VS} {rg mm:Int → Int} {s t:St} {d d0:Bool} {pend:Pend} {D:List Int} {i:Nat} {fx:Int → Bool} {rs:List (Option Row)}
theorem PendOk.le (h:PendOk S pend i) (l:S.count ≤ S'.count):PendOk S' pend i:=⟨fun p x e => let ⟨h0, h1, h2, h3, h4⟩:=h.lt p x e; ⟨h0, h1, Int.le_trans h2 l, h3, h4⟩, h.inj⟩
theorem cut_cons {r:Option Row}:cut D i (r :: rs) = (if (i:Int) ∈ D then none else r) :: cut D (i + 1) rs:=rfl
theorem cut_keep {r:Option Row} (h:(i:Int) ∉ D):cut D i (r :: rs) = r :: cut D (i + 1) rs:=by rw [cut_cons, if_neg h]
noncomputable def Next2 (fx:Int → Bool) (i:Nat) (D:List Int) (rs:List (Option Row)) (S:VS) (pend:Pend) (s t:St):Prop:=∃ v, Inv v S s.regs ∧ PendOk S pend (i + 1) ∧ Found fx S pend (i + 1) rs D ∧ Sim2 v pend D s t
section
variable {k:Kd} {a b c:Int} {r:Option Row}
theorem next_fixed {c':Int} {u:St} (h:Inv val S s.regs) (P:PendOk S pend i) (he:covL fx S pend i (r :: rs) = covL fx (S.fixed (.ins k a b c)) (fun _ => none) (i + 1) rs) (F:Found fx S pend i (r :: rs) D) (sm:Sim2 val pend D s t):Next2 fx i D rs (S.fixed (.ins k a b c)) (fun _ => none) (s.step k a b c') (if (i:Int) ∈ D then u else t.step k a b c'):=by
 obtain ⟨hn, hi, F'⟩:=found_clear P he F
 rw [St.eq2 sm hn, if_neg hi]
 obtain ⟨v, h', _⟩:=row_fixed (k:=k) (a:=a) (b:=b) (c:=c) (c':=c') h
 exact ⟨v, h', PendOk.none_, F', Sim2.refl⟩
theorem next_calc {u:St} (hm:k.mem = false) (ok:(Row.ins k a b c).Ok) (h:Inv val S s.regs) (P:PendOk S pend i) (he:covL fx S pend i (r :: rs) = covL fx { (S.result k a b c).2 with regs:=upd (S.result k a b c).2.regs a (S.result k a b c).1 } pend (i + 1) rs) (F:Found fx S pend i (r :: rs) D) (sm:Sim2 val pend D s t) :
  Next2 fx i D rs { (S.result k a b c).2 with regs:=upd (S.result k a b c).2.regs a (S.result k a b c).1 } pend (s.step k a b c) (if (i:Int) ∈ D then u else t.step k a b c):=by
 obtain ⟨v, g, n0, n1, n2⟩:=grow_result h (a:=a) (b:=b) (d:=c) hm ok.movh
 obtain ⟨_, hi, F'⟩:=found_keep P (fun _ _ e => e) he F
 rw [if_neg hi]
 exact ⟨v, by rw [step_calc hm]; exact g.inv.setReg (a:=a) n0 n1 n2, P.up g.le, F', sim2_calc hm (sm.agree (fun p x e => (P.lt p x e).2.2.1) g.agree)⟩
theorem next_str (ok:(Row.ins .str a b c).Ok) (h:Inv val S s.regs) (P:PendOk S pend i) (he:covL fx S pend i (r :: rs) = (pend ((S.of b).1, c)).toList ++ covL fx (S.of b).2 (upd pend ((S.of b).1, c) i) (i + 1) rs) (F:Found fx S pend i (r :: rs) D) (sm:Sim2 val pend D s t) :
  Next2 fx i D rs (S.of b).2 (upd pend ((S.of b).1, c) i) (s.step .str a b c) (if (i:Int) ∈ D then t else t.step .str a b c):=by
 obtain ⟨v1, g1, p1, p2, p3⟩:=grow_of h b
 obtain ⟨c0, c8⟩:=ok.2.2.2.2.1 rfl
 have es:s.spot b c = (v1 (S.of b).1 + c) % 4294967296:=by rw [p3]; rfl
 have P1:PendOk (S.of b).2 pend i:=P.le g1.le
 have lt:∀ {p}, pend p ≠ some (i:Int):=fun z => absurd (P.lt _ _ z).2.1 (Int.lt_irrefl _)
 refine ⟨v1, g1.inv, ⟨fun p x e => ?_, fun p q x e e' => ?_⟩, fun x hx => ?_, ?_⟩
 ·rcases upd_some e with ⟨rfl, rfl⟩ | ⟨_, e⟩
  ·exact ⟨Int.natCast_nonneg i, lt_succ (Int.le_refl _), p2, c0, c8⟩
  ·obtain ⟨h0, h1, h2⟩:=P1.lt p x e; exact ⟨h0, lt_succ (Int.le_of_lt h1), h2⟩
 ·rcases upd_some e with ⟨z1, rfl⟩ | ⟨_, e⟩
  ·rcases upd_some e' with ⟨z2, _⟩ | ⟨_, e'⟩
   ·exact z1.symm.trans z2
   ·exact absurd e' lt
  ·rcases upd_some e' with ⟨_, rfl⟩ | ⟨_, e'⟩
   ·exact absurd e lt
   ·exact P1.inj p q x e e'
 ·have nin:x ∉ (pend ((S.of b).1, c)).toList:=fun z => by
   have z:=Option.mem_toList.mp z
   rcases hx with q | ⟨p, q⟩
   ·exact no_succ q (Int.le_of_lt (P.lt _ _ z).2.1)
   ·rcases upd_some q with ⟨_, rfl⟩ | ⟨ne, q⟩
    ·exact lt z
    ·exact ne (P.inj _ _ x z q)
  have big:(i:Int) ≤ x ∨ ∃ p, pend p = some x:=by
   rcases hx with q | ⟨p, q⟩
   ·exact .inl (of_succ q)
   ·rcases upd_some q with ⟨_, rfl⟩ | ⟨_, q⟩
    ·exact .inl (Int.le_refl _)
    ·exact .inr ⟨p, q⟩
  exact (F x big).trans (he ▸ ⟨fun z => (List.mem_append.mp z).resolve_left nin, fun z => List.mem_append_right _ z⟩)
 ·have sp:=store_pending (val:=v1) (p:=((S.of b).1, c)) (v:=s.regs a) (y0:=0) (i:=i) (sm.agree (fun p x e => (P.lt p x e).2.2.1) g1.agree) (.inr trivial) (decide ((i:Int) ∈ D)) of_decide_eq_true
  have t2:t.step .str a b c = { t with mem:=putN t.mem ((v1 (S.of b).1 + c) % 4294967296) (s.regs a) 4 }:=by rw [← es, ← spot_eq sm.regs, ← sm.regs]; rfl
  show Sim2 v1 _ D { s with mem:=putN s.mem (s.spot b c) (s.regs a) 4 } _
  rw [t2, es]
  by_cases hi:(i:Int) ∈ D
  ·rw [if_pos hi]; rw [if_pos (decide_eq_true hi)] at sp; exact sp
  ·rw [if_neg hi]; rw [if_neg (by rw [decide_eq_false hi]; decide)] at sp; exact sp
theorem next_load {u:St} (hl:k.load = true) (ok:(Row.ins k a b c).Ok) (h:Inv val S s.regs) (P:PendOk S pend i) (he:covL fx S pend i (r :: rs) = covL fx { (S.of b).2.fresh with regs:=upd (S.of b).2.regs a ((S.of b).2.count + 1) } (keepP pend (S.of b).1 k c) (i + 1) rs) (F:Found fx S pend i (r :: rs) D) (sm:Sim2 val pend D s t) :
  Next2 fx i D rs { (S.of b).2.fresh with regs:=upd (S.of b).2.regs a ((S.of b).2.count + 1) } (keepP pend (S.of b).1 k c) (s.step k a b c) (if (i:Int) ∈ D then u else t.step k a b c):=by
 obtain ⟨v1, g1, p1, p2, p3⟩:=grow_of h b
 have cb:=ok.2.2.2.2.1 (by unfold Kd.mem; rw [hl]; rfl)
 have es:s.spot b c = (v1 (S.of b).1 + c) % 4294967296:=by rw [p3]; rfl
 have sm1:=sm.agree (fun p x e => (P.lt p x e).2.2.1) g1.agree
 have P1:PendOk (S.of b).2 pend i:=P.le g1.le
 have kp:∀ {p y}, keepP pend (S.of b).1 k c p = some y → (p.1 = (S.of b).1 ∧ apartB p.2 4 c k.bytes = true) ∧ pend p = some y:=fun {p y} e => by
  by_cases q:p.1 = (S.of b).1 ∧ apartB p.2 4 c k.bytes = true
  ·exact ⟨q, (if_pos q).symm.trans e⟩
  ·exact nomatch (if_neg q).symm.trans e
 obtain ⟨hk, hi, F'⟩:=found_keep P (fun p y e => (kp e).2) he F
 rw [if_neg hi]
 obtain ⟨n, hss, hn, hb, _⟩:=load_step hl
 have same:wordN t.mem (t.spot b c) n = wordN s.mem (s.spot b c) n:=by
  rw [spot_eq sm.regs]
  refine wordN_congr fun x x0 x1 => (sm1.mem x).resolve_right fun ⟨p, y, q1, q2, q3⟩ => ?_
  have z:=(kp (hk p y q1 q2)).1
  obtain ⟨_, _, _, b08⟩:=P.lt p y q1
  unfold inSpan at q3
  rw [z.1] at q3
  rw [es] at x0 x1
  rcases span_apart (v:=v1 (S.of b).1) (hn ▸ z.2) b08 cb (by decide) hb with w | w
  ·exact Int.lt_irrefl x (Int.lt_of_lt_of_le q3.2 (Int.le_trans w x0))
  ·exact Int.lt_irrefl x (Int.lt_of_lt_of_le x1 (Int.le_trans w q3.1))
 obtain ⟨v2, g2, q⟩:=grow_fresh g1.inv (wordN s.mem (s.spot b c) n)
 have sm2:=(sm1.agree (fun p x e => (P1.lt p x e).2.2.1) g2.agree).thin hk
 rw [hss s, hss t, same]
 exact ⟨v2, g2.inv.setReg (a:=a) (n:=(S.of b).2.count + 1) (one_pos g1.inv.pos) (Int.le_refl _) q, (P1.sub fun p y e => (kp e).2).up (le1 (Int.le_refl _)), F', congrArg (fun f => updF f a _) sm.regs, sm.flags, sm.high, sm2.mem⟩
theorem next_stb {u:St} (h:Inv val S s.regs) (P:PendOk S pend i) (he:covL fx S pend i (r :: rs) = covL fx (S.of b).2 pend (i + 1) rs) (F:Found fx S pend i (r :: rs) D) (sm:Sim2 val pend D s t):Next2 fx i D rs (S.of b).2 pend (s.step .stb a b c) (if (i:Int) ∈ D then u else t.step .stb a b c):=by
 obtain ⟨v1, g1, p1, p2, p3⟩:=grow_of h b
 have sm1:=sm.agree (fun p x e => (P.lt p x e).2.2.1) g1.agree
 obtain ⟨hk, hi, F'⟩:=found_keep P (fun _ _ e => e) he F
 rw [if_neg hi]
 refine ⟨v1, g1.inv, P.up g1.le, F', sm.regs, sm.flags, sm.high, fun x => ?_⟩
 show putN t.mem (t.spot b c) (t.regs a) 1 x = putN s.mem (s.spot b c) (s.regs a) 1 x ∨ _
 rw [spot_eq sm.regs, sm.regs, put1, put1]
 by_cases q:s.spot b c = x
 ·rw [if_pos q, if_pos q]; exact .inl rfl
 ·rw [if_neg q, if_neg q]; exact sm1.mem x
end
theorem phase2 (fx:Int → Bool) (D:List Int):∀ (rs:List (Option Row)) (i:Nat) (S:VS) (pend:Pend) (val:Int → Int) (s t:St), (∀ x, some x ∈ rs → x.Ok) → (∀ (j:Nat) k a b c, rs[j]? = some (some (.ins k a b c)) → fx ((i + j:Nat):Int) = true → k.regd = false) → Inv val S s.regs → PendOk S pend i → Found fx S pend i rs D → s.Good → Sim2 val pend D s t →
  runL fx i (cut D i rs) t = runL fx i rs s:=by
 intro rs
 induction rs with
 | nil =>
  intro i S pend val s t ok hf h P F G sm
  rw [St.eq2 sm fun p y e z => absurd ((F y (.inr ⟨p, e⟩)).mp z) List.not_mem_nil]; rfl
 | cons r rs ih =>
  intro i S pend val s t ok hf h P F G sm
  have ok':∀ x, some x ∈ rs → x.Ok:=fun x hx => ok x (.tail _ hx)
  have hf':∀ (j:Nat) k a b c, rs[j]? = some (some (.ins k a b c)) → fx ((i + 1 + j:Nat):Int) = true → k.regd = false:=fun j k a b c e hh => hf (j + 1) k a b c e (Nat.add_right_comm i 1 j ▸ hh)
  cases r with
  | none =>
   obtain ⟨_, _, F'⟩:=found_keep P (S2:=S) (pend2:=pend) (o:=none) (fun _ _ e => e) rfl F
   rw [cut_cons, ite_self]
   exact ih (i + 1) S pend val s t ok' hf' h (P.up (Int.le_refl _)) F' G sm
  | some r =>
   cases r with
   | trap cn n m =>
    obtain ⟨hn, hi, F'⟩:=found_clear P (S2:=S) (o:=some (.trap cn n m)) rfl F
    rw [cut_keep hi, St.eq2 sm hn]
    show (if condH cn s.flags = true then (((i:Nat):Int), s) else runL fx (i + 1) (cut D (i + 1) rs) s) = if condH cn s.flags = true then (((i:Nat):Int), s) else runL fx (i + 1) rs s
    rw [ih (i + 1) S _ val s s ok' hf' h PendOk.none_ F' G Sim2.refl]
   | ins k a b c =>
    have ok1:=ok _ (.head _)
    have he:=cov_step_eq (S:=S) (pend:=pend) (fx:=fx) (i:=i) (row:=some (.ins k a b c)) (rs:=rs)
    have G':=good_step (f:=fx i) G ok1 (hf 0 k a b c rfl)
    have nx:∀ {c' S2 pend2}, c' = (if fx i = true then c + 8 else c) → Next2 fx i D rs S2 pend2 (s.step k a b c') (if (i:Int) ∈ D then t else t.step k a b c') → runL fx i (cut D i (some (.ins k a b c) :: rs)) t = runL fx i (some (.ins k a b c) :: rs) s:=fun hc ⟨v, h', P', F', sm'⟩ => by
     subst hc
     refine Eq.trans ?_ (ih (i + 1) _ _ v _ _ ok' hf' h' P' F' G' sm')
     by_cases q:(i:Int) ∈ D
     ·rw [cut_cons, if_pos q, if_pos q]; rfl
     ·rw [cut_keep q, if_neg q]; rfl
    by_cases hfx:fx i = true
    ·rw [show covStep S pend (fx i) i (some (.ins k a b c)) = _ from if_pos hfx] at he
     exact nx rfl (next_fixed (c:=c) h P he F sm)
    ·have nx:=fun {S2 pend2} => nx (c':=c) (S2:=S2) (pend2:=pend2) (if_neg hfx).symm
     rw [show covStep S pend (fx i) i (some (.ins k a b c)) = _ from if_neg hfx] at he
     by_cases hm:k.mem = true
     ·rw [if_pos hm] at he
      by_cases hs:k = .str
      ·rw [if_pos hs] at he; subst hs; exact nx (next_str ok1 h P he F sm)
      ·rw [if_neg hs] at he
       by_cases hl:k.load = true
       ·rw [if_pos hl] at he; exact nx (next_load hl ok1 h P he F sm)
       ·rw [if_neg hl] at he
        obtain rfl:k = .stb:=(mem_store k (mem_allKd k) (by unfold Kd.mem at hm; rw [Bool.eq_false_iff.mpr hl, Bool.false_or] at hm; exact hm)).resolve_left hs
        exact nx (next_stb h P he F sm)
     ·rw [if_neg hm] at he; exact nx (next_calc (Bool.eq_false_iff.mpr hm) ok1 h P he F sm)
end Mini
end
section
namespace Mini
open PySem PySem.W PyProof.Rows
variable {S:VS} {pend:Pend} {D:List Int} {i:Nat} {fx:Int → Bool} {rs:List (Option Row)}
theorem cut_get:∀ (rs:List (Option Row)) (i j:Nat), (cut D i rs)[j]? = (rs[j]?).map fun r => if ((i + j:Nat):Int) ∈ D then none else r:=by
 intro rs
 induction rs with
 | nil => intro i j; rfl
 | cons r rs ih =>
  intro i j
  rw [cut_cons]
  cases j with
  | zero => rfl
  | succ j => exact (ih (i + 1) j).trans (by rw [Nat.add_right_comm]; rfl)
theorem blank_get:∀ (xs:List Int) (l:List (Option Row)) (j:Nat), (∀ x ∈ xs, 0 ≤ x) → (blank l xs)[j]? = (l[j]?).map fun r => if (j:Int) ∈ xs then none else r:=by
 intro xs
 induction xs with
 | nil => intro l j h; exact ((congrArg (fun f => Option.map f l[j]?) (funext fun r => if_neg List.not_mem_nil)).trans (Option.map_id' ..)).symm
 | cons x xs ih =>
  intro l j h
  rw [show blank l (x :: xs) = blank (l.set x.toNat none) xs from rfl, ih _ j fun y hy => h y (.tail _ hy), List.getElem?_set]
  by_cases hx:x.toNat = j
  ·have e:(j:Int) = x:=hx ▸ Int.toNat_of_nonneg (h x (.head _))
   have m:(j:Int) ∈ x :: xs:=e ▸ .head _
   rw [if_pos hx]
   by_cases hl:x.toNat < l.length
   ·rw [if_pos hl, List.getElem?_eq_getElem (hx ▸ hl)]
    show some (if _ then none else none) = some (if _ then none else _)
    rw [ite_self, if_pos m]
   ·rw [if_neg hl, List.getElem?_eq_none (Nat.not_lt.mp (hx ▸ hl))]; rfl
  ·rw [if_neg hx]
   refine congrArg (fun f => Option.map f l[j]?) (funext fun r => ?_)
   by_cases q:(j:Int) ∈ xs
   ·rw [if_pos q, if_pos (.tail _ q)]
   ·rw [if_neg q, if_neg fun z => (List.mem_cons.mp z).elim (fun z => hx (by rw [← z]; rfl)) q]
theorem blank_cut {l:List (Option Row)} (h:∀ x ∈ D, 0 ≤ x):blank l D = cut D 0 l :=
 List.ext_getElem? fun j => by rw [blank_get D l j h, cut_get, Nat.zero_add]
theorem cut_len:∀ (rs:List (Option Row)) (i:Nat), (cut D i rs).length = rs.length:=by
 intro rs
 induction rs with
 | nil => intro i; rfl
 | cons r rs ih => intro i; exact congrArg Nat.succ (ih (i + 1))
theorem cut_mem {x:Row}:∀ (rs:List (Option Row)) (i:Nat), some x ∈ cut D i rs → some x ∈ rs:=by
 intro rs
 induction rs with
 | nil => intro i h; exact h
 | cons r rs ih =>
  intro i h
  rw [cut_cons] at h
  rcases List.mem_cons.mp h with h | h
  ·by_cases q:(i:Int) ∈ D
   ·rw [if_pos q] at h; exact nomatch h
   ·rw [if_neg q] at h; exact h ▸ .head _
  ·exact .tail _ (ih (i + 1) h)
theorem simpL_fixed:∀ (rows:List Row) (ds:List Bool) (i j:Nat) (S:VS) (r:Row), rows.length = ds.length → rows[j]? = some r → (fx ((i + j:Nat):Int) = true ∨ r.ctl = true) → (simpL S fx i rows ds)[j]? = some (some r):=by
 intro rows
 induction rows with
 | nil => intro ds i j S r hl h hf; exact nomatch h
 | cons x rs ih =>
  intro ds i j S r hl h hf
  cases ds with
  | nil => exact nomatch hl
  | cons d ds =>
   cases j with
   | zero =>
    obtain rfl:x = r:=Option.some.inj h
    show some (S.simp1 (fx i) x d).1 = _
    cases x with
    | trap => rfl
    | ins k a b c =>
     have q:fx i = true:=hf.resolve_right Bool.false_ne_true
     rw [show S.simp1 (fx i) (.ins k a b c) d = _ from if_pos q]
   | succ j => exact ih ds (i + 1) j _ r (Nat.succ.inj hl) h (Nat.add_right_comm i 1 j ▸ hf)
theorem covStep_new {f:Bool} {pos:Int} {row:Option Row} {p:Int × Int} {x:Int} (h:(covStep S pend f pos row).2.1 p = some x):(x = pos ∧ f = false ∧ ∃ a b c, row = some (.ins .str a b c)) ∨ ∃ p, pend p = some x:=by
 cases row with
 | none => exact .inr ⟨p, h⟩
 | some r =>
  cases r with
  | trap => exact nomatch h
  | ins k a b c =>
   revert h
   refine cov1_all (C:=fun t => t.2.1 p = some x → (x = pos ∧ f = false ∧ ∃ a' b' c', some (Row.ins k a b c) = some (.ins .str a' b' c')) ∨ ∃ p, pend p = some x) (fun T h => nomatch h) (fun hf hk T q h => ?_) (fun T q h => ?_) fun T h => .inr ⟨p, h⟩
   ·rcases upd_some h with ⟨_, e⟩ | ⟨_, e⟩
    ·exact .inl ⟨e.symm, Bool.eq_false_iff.mpr hf, a, b, c, by rw [hk]⟩
    ·exact .inr ⟨p, e⟩
   ·revert h
    exact iteInduction (motive:=fun o => o = some x → _) (fun _ h => .inr ⟨p, h⟩) fun _ h => nomatch h
theorem covL_row:∀ (rs:List (Option Row)) (S:VS) (pend:Pend) (i:Nat) (x:Int), x ∈ covL fx S pend i rs → (∃ p, pend p = some x) ∨ (∃ j:Nat, x = ((i + j:Nat):Int) ∧ fx x = false ∧ ∃ a b c, rs[j]? = some (some (.ins .str a b c))):=by
 intro rs
 induction rs with
 | nil => intro S pend i x h; exact absurd h List.not_mem_nil
 | cons row rs ih =>
  intro S pend i x h
  rw [cov_step_eq] at h
  rcases List.mem_append.mp h with h | h
  ·exact .inl (covStep_found h)
  ·rcases ih _ _ (i + 1) x h with ⟨p, hp⟩ | ⟨j, e, hf, a, b, c, hr⟩
   ·rcases covStep_new hp with ⟨q1, q2, a, b, c, q3⟩ | q
    ·exact .inr ⟨0, q1, by rw [q1]; exact q2, a, b, c, congrArg some q3⟩
    ·exact .inl q
   ·exact .inr ⟨j + 1, e.trans (by rw [Nat.add_right_comm]; rfl), hf, a, b, c, hr⟩
section
variable {rows:List Row}
theorem num_cut:numberRun fx rows = cut (covL fx VS.empty (fun _ => none) 0 (simplRows fx rows)) 0 (simplRows fx rows) :=
 blank_cut fun x hx => (covL_mem _ _ _ _ x hx).elim (fun ⟨p, hp⟩ => nomatch hp) fun h => h.1
theorem num_len:(numberRun fx rows).length = rows.length:=by
 rw [num_cut, cut_len]; exact simpL_len rows _ 0 _ (deads_len rows).symm
theorem num_ok (h:∀ r ∈ rows, r.Ok):∀ x, some x ∈ numberRun fx rows → x.Ok:=fun x hx => by
 rw [num_cut] at hx
 exact simpL_ok rows _ 0 _ h x (cut_mem _ 0 hx)
theorem simpl_kept {j:Nat} {r:Row} (h:rows[j]? = some r) (hf:fx (j:Int) = true ∨ r.ctl = true):(simplRows fx rows)[j]? = some (some r) :=
 simpL_fixed rows _ 0 j _ r (deads_len rows).symm h (by rw [Nat.zero_add]; exact hf)
theorem num_kept {j:Nat} {r:Row} (h:rows[j]? = some r) (hf:fx (j:Int) = true ∨ r.ctl = true):(numberRun fx rows)[j]? = some (some r):=by
 rw [num_cut, cut_get, simpl_kept h hf]
 refine congrArg some (if_neg fun z => ?_)
 rw [Nat.zero_add] at z
 rcases covL_row _ _ _ _ _ z with ⟨p, hp⟩ | ⟨m, e, q, a, b, c, hr⟩
 ·exact nomatch hp
 ·rw [Nat.zero_add] at e
  rw [← Int.ofNat_inj.mp e, simpl_kept h hf] at hr
  rcases hf with w | w
  ·exact absurd (q.symm.trans w) Bool.false_ne_true
  ·rw [Option.some.inj (Option.some.inj hr)] at w; exact nomatch w
theorem fx_of {l:List (Option Row)} (hl:l.length = rows.length) (hk:∀ {j:Nat} {r:Row}, rows[j]? = some r → fx (j:Int) = true → l[j]? = some (some r)) (hf:∀ (j:Nat) k a b c, rows[j]? = some (.ins k a b c) → fx (j:Int) = true → k.regd = false):∀ (j:Nat) k a b c, l[j]? = some (some (.ins k a b c)) → fx (j:Int) = true → k.regd = false:=fun j k a b c h hj => by
 have e:=List.getElem?_eq_getElem (l:=rows) (Nat.lt_of_lt_of_eq (List.getElem?_eq_some_iff.mp h).1 hl)
 exact hf j k a b c (e.trans (congrArg some (Option.some.inj (Option.some.inj ((hk e hj).symm.trans h))))) hj
theorem num_fx (hf:∀ (j:Nat) k a b c, rows[j]? = some (.ins k a b c) → fx (j:Int) = true → k.regd = false):∀ (j:Nat) k a b c, (numberRun fx rows)[j]? = some (some (.ins k a b c)) → fx (j:Int) = true → k.regd = false:=fx_of num_len (fun h q => num_kept h (.inl q)) hf
theorem num_run (ok:∀ r ∈ rows, r.Ok) (hf:∀ (j:Nat) k a b c, rows[j]? = some (.ins k a b c) → fx (j:Int) = true → k.regd = false) {s:St} (G:s.Good):runL fx 0 (numberRun fx rows) s = runL fx 0 (rows.map some) s:=by
 have i0:Inv (fun _ => 0) VS.empty s.regs:=⟨Int.le_refl _, (fun r n e => nomatch e), (fun r n e => nomatch e), (fun r n e => nomatch e), fun r n e => nomatch e⟩
 have z:∀ {l:List (Option Row)}, (∀ (j:Nat) k a b c, l[j]? = some (some (.ins k a b c)) → fx (j:Int) = true → k.regd = false) → ∀ (j:Nat) k a b c, l[j]? = some (some (.ins k a b c)) → fx ((0 + j:Nat):Int) = true → k.regd = false:=fun h j k a b c e q => h j k a b c e (by rw [Nat.zero_add] at q; exact q)
 rw [← phase1 fx rows 0 VS.empty (fun _ => 0) s s ok (fun j k a b c e q => hf j k a b c e (by rw [Nat.zero_add] at q; exact q)) i0 (fun x n e => nomatch e) G ⟨rfl, rfl, rfl, fun _ => rfl⟩, num_cut]
 exact phase2 fx _ (simplRows fx rows) 0 VS.empty (fun _ => none) (fun _ => 0) s s (simpL_ok rows _ 0 _ ok) (z (fx_of (simpL_len rows _ 0 _ (deads_len rows).symm) (fun h q => simpl_kept h (.inl q)) hf)) i0 PendOk.none_ (fun x hx => Iff.rfl) G Sim2.refl
end
end Mini
end
section
namespace Mini
open PySem PySem.W PyProof.Rows
noncomputable def noFx:Int → Bool:=fun _ => false
theorem of_hit {S:VS} {r n:Int} (h:S.regs r = some n):S.of r = (n, S):=by unfold VS.of; rw [h]
theorem of_miss {S:VS} {r:Int} (h:S.regs r = none):S.of r = (S.count + 1, { S.fresh with regs:=upd S.regs r (S.count + 1) }):=by unfold VS.of; rw [h]
theorem st1 (a b c:Int):∃ T n, VS.empty.store .str a b c = (some (.ins .str a b c), T) ∧ T.regs b = some 1 ∧ T.regs a = some n ∧ T.words (1, c) = some n ∧ n ≤ T.count ∧ ∀ x, x ≠ a → T.regs x ≠ some n:=by
 have go:∀ (S2:VS) (n:Int), (VS.empty.of b).2.of a = (n, S2) → S2.words (1, c) = none → n ≠ 0 → VS.empty.store .str a b c = (some (.ins .str a b c), { S2.forget 1 .str c with words:=upd (S2.forget 1 .str c).words (1, c) n }):=fun S2 n e hw hn => by
  unfold VS.store
  dsimp only
  rw [e, show (VS.empty.of b).1 = 1 from rfl, hw, if_neg fun z => hn z.2.symm, if_pos rfl]
 by_cases h:b = a
 ·subst h
  have hr:(VS.empty.of b).2.regs b = some 1:=upd_at
  exact ⟨_, 1, go _ 1 (of_hit hr) rfl (by decide), hr, hr, upd_at, Int.le_refl _, fun x hx z => nomatch (upd_ne (f:=fun _ => none) (v:=1) (Ne.symm hx)).symm.trans z⟩
 ·have hr:(VS.empty.of b).2.regs a = none:=upd_ne h
  refine ⟨_, 2, go _ 2 (of_miss hr) rfl (by decide), (upd_ne (Ne.symm h)).trans upd_at, upd_at, upd_at, Int.le_refl _, fun x hx z => ?_⟩
  have z:upd (fun _ => none) b 1 x = some 2:=(upd_ne (Ne.symm hx)).symm.trans z
  by_cases q:b = x
  ·rw [q, upd_at] at z; exact absurd z (by decide)
  ·exact nomatch (upd_ne (f:=fun _ => none) (v:=1) q).symm.trans z
theorem ld2 {T:VS} {a b c n:Int} {d:Bool} (h1:T.regs b = some 1) (h2:T.regs a = some n) (h3:T.words (1, c) = some n):(T.load .ldr a b c d).1 = none:=by
 unfold VS.load
 dsimp only
 rw [of_hit h1, if_neg (by decide)]
 dsimp only
 rw [h3]
 exact if_pos (by rw [h2]; rfl)
theorem none_kept {D:List Int} {l:List (Option Row)} (e:l[1]? = some none):(cut D 0 l)[1]? = some none:=by
 rw [cut_get, e]
 show some (if _ then none else none) = some none
 rw [ite_self]
theorem wins1 (a b c:Int):(numberRun noFx [.ins .str a b c, .ins .ldr a b c])[1]? = some none:=by
 rw [num_cut]
 refine none_kept ?_
 show some ((VS.empty.store .str a b c).2.load .ldr a b c false).1 = some none
 obtain ⟨T, n, e, h1, h2, h3, _⟩:=st1 a b c
 rw [e, ld2 h1 h2 h3]
theorem wins3 (a b c:Int) (h:a ≠ b):(numberRun noFx [.ins .ldr a b c, .ins .ldr a b c])[1]? = some none:=by
 rw [num_cut]
 refine none_kept ?_
 show some (((VS.empty.of b).2.loadNew .ldr a 1 c).load .ldr a b c false).1 = some none
 rw [ld2 (n:=2) ((upd_ne h).trans upd_at) upd_at upd_at]
theorem simpl2 (a a' b c:Int):simplRows noFx [.ins .str a b c, .ins .str a' b c] = [(VS.empty.store .str a b c).1, ((VS.empty.store .str a b c).2.store .str a' b c).1]:=rfl
theorem wins2 (a a' b c:Int):((numberRun noFx [.ins .str a b c, .ins .str a' b c]).map orow).countP V.isNone = 1:=by
 obtain ⟨T, n, e, h1, h2, h3, h4, h5⟩:=st1 a b c
 unfold numberRun
 rw [simpl2, e]
 dsimp only
 by_cases h:a' = a
 ·subst h
  have:T.store .str a' b c = (none, T):=by
   unfold VS.store
   dsimp only
   rw [of_hit h1, of_hit h2, if_pos ⟨rfl, by rw [h3]; rfl⟩]
  rw [this]; rfl
 ·have:(T.store .str a' b c).1 = some (.ins .str a' b c):=by
   have ne:∀ {m T2}, T.of a' = (m, T2) → m ≠ n ∧ T2.words = T.words:=fun {m T2} q => by
    cases hr:T.regs a' with
    | some k => rw [of_hit hr] at q; cases q; exact ⟨fun z => h5 a' h (by rw [hr, z]), rfl⟩
    | none => rw [of_miss hr] at q; cases q; exact ⟨fun z => absurd (Int.lt_add_one_iff.mpr h4) (by rw [z]; exact Int.lt_irrefl _), rfl⟩
   obtain ⟨n1, n2⟩:=ne (m:=(T.of a').1) (T2:=(T.of a').2) rfl
   unfold VS.store
   dsimp only
   rw [of_hit h1]
   dsimp only
   rw [n2, h3, if_neg fun z => n1 z.2.symm]
  rw [this]
  have r2:(VS.empty.of b).2.regs b = some 1:=upd_at
  have e2:covL noFx VS.empty (fun _ => none) 0 [some (.ins .str a b c), some (.ins .str a' b c)] = [0]:=by
   show (upd (fun _ => none) (1, c) 0 (((VS.empty.of b).2.of b).1, c)).toList ++ [] = [0]
   rw [of_hit r2, upd_at]; rfl
  rw [e2]; rfl
end Mini
end
section
namespace Mini
open PySem PySem.W PyProof.Rows
section
variable {σ0 σ σ':Store} {A:SA} {s:St} {B:Nat} {Γ:GE}
theorem mem_comp {ρ:Loc} {Q:List (Key × V) → Store → Prop} (hq:∀ acc, ByK (mem0 20) 20 acc → Q acc σ):∀ (m j:Nat) (acc:List (Key × V)), j + m = 20 → ByK (mem0 j) j acc →
  compLoop (fun _ => True) (fun ρ' σ' Q' => wIfs Γ [] ρ' σ' Q') (fun (acc:List (Key × V)) ρ' σ' Q' => wX Γ (.bin .Add (.lit (.int (1000))) (.var "lap")) ρ' σ' fun kv σ'' => wX Γ (.bin .Add (.bin .Mult (.lit (.int (5))) (.var "lap")) (.lit (.int (1)))) ρ' σ'' fun v σ₃ =>
   ∃ key, kv.key? = some key ∧ (∀ e ∈ acc, e.1.isTp = key.isTp) ∧ Q' (aset acc key v) σ₃) "lap" ρ ((List.range' j m).map fun (i:Nat) => V.int i) acc σ Q:=by
 intro m
 induction m with
 | zero =>
  intro j acc h b
  obtain rfl:j = 20:=h
  exact cl_nil trivial (hq acc b)
 | succ m ih =>
  intro j acc h b
  rw [List.range'_succ, List.map_cons]
  refine cl_all trivial <| x_bin <| x_lit <| x_var g_here <| n_add <| x_bin <| x_bin <| x_lit <| x_var g_here <| n_mul (.inl (by decide)) <| x_lit <| n_add ⟨kI (1000 + j), rfl, fun en he => ?_, ?_⟩
  ·obtain ⟨⟨g, mk, _⟩, _⟩:=b
   obtain ⟨y, v, e1, _⟩:=mk.shape en he
   rw [e1]; exact kI_tp _ _
  ·exact ih (j + 1) _ (by rw [Nat.add_right_comm]; exact h) (b.put (1000 + j) (5 * j + 1))
theorem four_nd {p r m f:Addr} (a1:p ≠ r) (a2:p ≠ m) (a3:p ≠ f) (b1:r ≠ m) (b2:r ≠ f) (c1:m ≠ f):([p, r, m, f]:List Addr).Nodup:=by
 simp only [List.nodup_cons, List.mem_cons, not_or, List.not_mem_nil, not_false_eq_true, List.nodup_nil, and_true]
 exact ⟨⟨a1, a2, a3⟩, ⟨b1, b2⟩, c1⟩
noncomputable def startX:X:=.dict ["regs", "bytes", "flags", "high"] [(.bcall .list [(.var "ahead")]), (.dcomp (.bin .Add (.lit (.int (1000))) (.var "lap")) (.bin .Add (.bin .Mult (.lit (.int (5))) (.var "lap")) (.lit (.int (1)))) "lap" (.range [(.lit (.int (20)))]) []), (.list [(.lit (.int (0))), (.lit (.int (1))), (.lit (.int (0))), (.lit (.int (0)))]), (.lit (.int (6)))]
theorem start_run {ρ:Loc} {a:Addr} {rg:Int → Int} {Q:V → Store → Prop} (g3:ρ.get "ahead" = some (.ref a)) (ea:σ a = some (.list (rgV rg)))
  (h:∀ A σ1, (∀ b ∈ A.all, σ b = none) → IsSt σ1 A (st0 rg) 20 → HeldS σ σ1 A → Q (.ref A.p) σ1):wX Γ startX ρ σ Q:=by
 refine x_dict ?_
 show wX Γ (.bcall .list [(.var "ahead")]) ρ σ _
 refine x_bcall <| xs_cons <| x_var g3 <| xs_nil <| lst_copy ea (by rw [rg_len]; decide) fun r hr => ?_
 show wX Γ (.dcomp (.bin .Add (.lit (.int (1000))) (.var "lap")) (.bin .Add (.bin .Mult (.lit (.int (5))) (.var "lap")) (.lit (.int (1)))) "lap" (.range [(.lit (.int (20)))]) []) ρ _ _
 refine x_dcomp <| i_range <| xs_cons <| x_lit <| xs_nil <| r_nat (n:=20) (by decide) ⟨by rw [List.length_map, List.length_range]; decide, ?_⟩
 rw [List.range_eq_range']
 refine mem_comp (fun es hes => ?_) 20 0 [] rfl ⟨⟨fun _ => none, MapK.nil, fun x => rfl⟩, List.nodup_nil⟩
 intro m hm
 have hm:(σ.set r (.list (rgV rg))) m = none:=hm
 obtain ⟨m_r, hm0⟩:=free_of hm
 show wX Γ (.list [(.lit (.int (0))), (.lit (.int (1))), (.lit (.int (0))), (.lit (.int (0)))]) ρ ((σ.set r (.list (rgV rg))).set m (.dict es)) _
 refine x_list <| xs_cons <| x_lit <| xs_cons <| x_lit <| xs_cons <| x_lit <| xs_cons <| x_lit <| xs_nil fun fl hfl => ?_
 obtain ⟨f_m, hfl1⟩:=free_of hfl
 obtain ⟨f_r, hf0⟩:=free_of hfl1
 show wX Γ (.lit (.int (6))) ρ _ _
 refine x_lit fun p hp => ?_
 obtain ⟨p_f, hp1⟩:=free_of hp
 obtain ⟨p_m, hp2⟩:=free_of hp1
 obtain ⟨p_r, hp0⟩:=free_of hp2
 refine h ⟨p, r, m, fl⟩ ((((σ.set r (.list (rgV rg))).set m (.dict es)).set fl (.list [.int 0, .int 1, .int 0, .int 0])).set p (.dict (stD ⟨p, r, m, fl⟩ 6))) (fun b hb => ?_) ⟨set_eq, ?_, ⟨es, ?_, hes⟩, ?_, ?_⟩ fun b o e => ⟨?_, fun hb => ?_⟩
 ·rcases List.mem_cons.mp hb with rfl | hb
  ·exact hp0
  rcases List.mem_cons.mp hb with rfl | hb
  ·exact hr
  rcases List.mem_cons.mp hb with rfl | hb
  ·exact hm0
  ·rw [List.mem_singleton.mp hb]; exact hf0
 ·show (Store.set _ p _) r = _; rw [set_ne p_r.symm, set_ne f_r.symm, set_ne m_r.symm, set_eq]; rfl
 ·show (Store.set _ p _) m = _; rw [set_ne p_m.symm, set_ne f_m.symm, set_eq]
 ·show (Store.set _ p _) fl = _; rw [set_ne p_f.symm, set_eq]; rfl
 ·show ([p, r, m, fl]:List Addr).Nodup
  exact four_nd p_r p_m p_f m_r.symm f_r.symm f_m.symm
 ·show (Store.set _ p _) b = _; rw [set_ne (ne_new e hp0), set_ne (ne_new e hf0), set_ne (ne_new e hm0), set_ne (ne_new e hr)]; exact e
 ·rcases List.mem_cons.mp hb with z | hb
  ·exact ne_new e hp0 z
  rcases List.mem_cons.mp hb with z | hb
  ·exact ne_new e hr z
  rcases List.mem_cons.mp hb with z | hb
  ·exact ne_new e hm0 z
  ·exact ne_new e hf0 (List.mem_singleton.mp hb)
theorem turn_good {fx:Int → Bool} {j:Nat} {row:Option Row} {s' s2:St}
  (hs:match row with | none => s2 = s' | some (.trap c _ _) => condH c s'.flags = false ∧ s2 = s' | some (.ins k a b d) => s2 = s'.step k a b (if fx j = true then d + 8 else d)) (G:s'.Good) (hok:∀ x, row = some x → x.Ok) (hfx:∀ k a b d, row = some (.ins k a b d) → fx j = true → k.regd = false) :
  s2.Good ∧ ∀ rs, runL fx j (row :: rs) s' = runL fx (j + 1) rs s2:=by
 cases row with
 | none => cases hs; exact ⟨G, fun _ => rfl⟩
 | some row =>
  cases row with
  | trap c n mm =>
   obtain ⟨hc, rfl⟩:=hs
   refine ⟨G, fun rs => ?_⟩
   show (if _ then _ else _) = _
   rw [if_neg (by rw [hc]; exact Bool.false_ne_true)]
  | ins k a b d =>
   cases hs
   have ok:=hok _ rfl
   have now:k.regd = true ∨ k = .movh → (if fx j = true then d + 8 else d) = d:=fun z => by
    rw [if_neg]
    intro y
    have r:=hfx k a b d rfl y
    rcases z with z | z
    ·rw [r] at z; exact Bool.false_ne_true z
    ·rw [z] at r; exact Bool.false_ne_true r.symm
   refine ⟨G.step ⟨ok.2.2.1, ok.2.2.2.1⟩ (fun hr => ?_) (fun hm => ?_), fun rs => rfl⟩
   ·rw [now (.inl hr)]; exact ok.2.2.2.2.2 hr
   ·rw [now (.inr hm)]; exact ok.movh hm
theorem ok_end (F:EndFns Γ) {vs:List V} {σ:Store} {Q:V → Store → Prop} (h:sp_end vs σ Q):wBody Γ ["steps", "later_on", "ahead"] b__law_end vs σ Q:=by
 obtain ⟨st, f, a, rows, fx, rg, rfl, er, ef, ea, hl, hok, hfx, hrg, hq⟩:=h
 refine body_intro rfl ?_
 show wSs Γ (.assign "state" startX :: .for_ "spot" (.range [(.bcall .len [(.var "steps")])]) endBody :: [.ret (.tup [(.bcall .len [(.var "steps")]), (.call "_law_tidy" [(.var "state")])])]) _ σ _
 generalize hρ:(((Loc.set [] "steps" (V.ref st)).set "later_on" (.ref f)).set "ahead" (.ref a)) = ρ
 have g1:ρ.get "steps" = some (.ref st):=hρ ▸ g_th (g_th g_here)
 have g2:ρ.get "later_on" = some (.ref f):=hρ ▸ g_th g_here
 have g3:ρ.get "ahead" = some (.ref a):=hρ ▸ g_here
 refine s_assign <| start_run g3 ea fun A0 σ1 fresh I0 H0 => ?_
 have len:∀ {α:Type} {l:List α}, l.length = rows.length → l.length ≤ 100000:=fun e => by rw [e]; exact Nat.le_trans hl (by decide)
 refine s_for <| i_range <| xs_cons <| x_bcall <| xs_cons <| x_var (g_th g1) <| xs_nil <| lst_len (H0 st _ er).1 (len_map hl (by decide)) <| xs_nil <| r_nat (len_map hl (by decide)) ?_
 rw [List.length_map]
 have fin:∀ A' τ s' (i:Int), A'.p = A0.p → IsSt τ A' s' 900 → Tidy τ A' → HeldS σ τ A' → (i, s') = runL fx 0 rows (st0 rg) → Q (.tup [.int i, .ref A0.p]) τ:=by
  intro A' τ s' i ep I' ti hh he
  rw [← he] at hq
  rw [← ep]
  refine hq A' τ (fun b hb => ?_) I' ti fun b o e => (hh b o e).1
  cases q:σ b with
  | none => rfl
  | some o => exact absurd hb (hh b o q).2
 have cnt:∀ {j:Nat}, j ≤ rows.length → 20 + 4 * j ≤ 500:=fun hj => Nat.le_trans (Nat.add_le_add_left (Nat.mul_le_mul_left 4 (Nat.le_trans hj hl)) 20) (by decide)
 refine for_range (fun j ρ σ' => ∃ A' s', A'.p = A0.p ∧ IsSt σ' A' s' (20 + 4 * j) ∧ s'.Good ∧ HeldS σ σ' A' ∧ runL fx j (rows.drop j) s' = runL fx 0 rows (st0 rg) ∧ ρ.get "state" = some (.ref A0.p) ∧ ρ.get "steps" = some (.ref st) ∧ ρ.get "later_on" = some (.ref f)) ?_ ?_ ?_
 ·exact ⟨A0, st0 rg, rfl, I0, st0_good hrg, H0, rfl, g_here, g_th g1, g_th g2⟩
 ·rintro j ρ' σ' K' hj ⟨A', s', ep, I, G, hh, heq, i1, i2, i3⟩ q1 q2 q3
  have ef':FixD σ' f fx:=by
   obtain ⟨eff, t1, t2⟩:=ef
   exact ⟨eff, (hh f _ t1).1, t2⟩
  have hrow:∀ x, rows[j] = some x → x.Ok:=fun x hx => hok x (hx ▸ List.getElem_mem hj)
  have hfr:∀ k a b d, rows[j] = some (.ins k a b d) → fx j = true → k.regd = false:=fun k a b d e => hfx j k a b d (by rw [List.getElem?_eq_getElem hj, e])
  have dr:=List.drop_eq_getElem_cons hj
  rw [dr] at heq
  have c4:=cnt (Nat.le_of_lt hj)
  refine end_turn F (rows:=rows) (st:=st) (f:=f) (fx:=fx) (j:=j) (row:=rows[j]) I (Nat.le_trans (Nat.add_le_add_right c4 4) (by decide)) G hrow hfr (hh st _ er).1 (Nat.le_trans hl (by decide)) (List.getElem?_eq_getElem hj) ef' (by rw [ep]; exact g_th i1) (g_th i2) g_here (g_th i3) (fun A2 σ2 ρ2 flow s2 hflow hs2 ep2 I2 k2 kl => ?_) fun A2 σ2 ρ2 c n mm hrw hc ep2 I2 ti k2 => ?_
  ·obtain ⟨G2, run2⟩:=turn_good hs2 G hrow hfr
   rw [run2] at heq
   have nxt:∃ A' s', A'.p = A0.p ∧ IsSt σ2 A' s' (20 + 4 * (j + 1)) ∧ s'.Good ∧ HeldS σ σ2 A' ∧ runL fx (j + 1) (rows.drop (j + 1)) s' = runL fx 0 rows (st0 rg) ∧ ρ2.get "state" = some (.ref A0.p) ∧ ρ2.get "steps" = some (.ref st) ∧ ρ2.get "later_on" = some (.ref f) :=
    ⟨A2, s2, ep2.trans ep, I2, G2, hh.keep k2, heq, (kl _ (by decide)).trans (g_th i1), (kl _ (by decide)).trans (g_th i2), (kl _ (by decide)).trans (g_th i3)⟩
   rcases hflow with rfl | rfl
   ·exact q2 _ _ nxt
   ·exact q3 _ _ nxt
  ·refine q1 _ _ _ ?_
   rw [ep]
   refine fin A2 σ2 s' j (ep2.trans ep) (I2.up (Nat.le_trans (Nat.add_le_add_right c4 4) (by decide))) ti (hh.keep k2) ?_
   rw [← heq, hrw]
   show _ = if _ then _ else _
   rw [if_pos hc]
 ·rintro ρ' σ' ⟨A', s', ep, I, G, hh, heq, i1, i2, i3⟩
  have c4:=Nat.le_trans (cnt (Nat.le_refl _)) (by decide:500 ≤ 900)
  refine s_ret <| x_tup <| xs_cons <| x_bcall <| xs_cons <| x_var i2 <| xs_nil <| lst_len (hh st _ er).1 (len_map hl (by decide)) <| xs_cons <| x_call F.tidy <| xs_cons <| x_var i1 <| xs_nil ⟨A', s', 20 + 4 * rows.length, by rw [ep], I, c4, fun A2 σ2 ep2 I2 ti k2 => xs_nil ?_⟩
  rw [List.length_map, ep]
  refine fin A2 σ2 s' rows.length (ep2.trans ep) (I2.up c4) ti (hh.keep k2) ?_
  rw [← heq, List.drop_length]
  rfl
end
end Mini
end
section
namespace Mini
open PySem PySem.W PyProof.Rows
section
variable {σ σ':Store} {Γ:GE}
theorem nm_ins {r:Row} {k:Kd} (h:r.nm = k.nm):∃ a b c, r = .ins k a b c:=by
 cases r with
 | ins k' a b c => have:=nm_inj (show k'.nm = k.nm from h); subst this; exact ⟨a, b, c, rfl⟩
 | trap c n m => exact absurd h.symm (nm_trap k)
theorem and4 {p q r s t:Prop} [Decidable p] [Decidable q] [Decidable r] [Decidable s] [Decidable t] (h:t ↔ p ∧ q ∧ r ∧ s):(decide p && (decide q && (decide r && (decide s && true)))) = decide t:=by
 by_cases z:t
 ·obtain ⟨a, b, c, d⟩:=h.mp z
  rw [decide_eq_true z, decide_eq_true a, decide_eq_true b, decide_eq_true c, decide_eq_true d]; rfl
 ·rw [decide_eq_false z]
  by_cases a:p
  ·by_cases b:q
   ·by_cases c:r
    ·rw [decide_eq_false fun d => z (h.mpr ⟨a, b, c, d⟩), Bool.false_and, Bool.and_false, Bool.and_false, Bool.and_false]
    ·rw [decide_eq_false c, Bool.false_and, Bool.and_false, Bool.and_false]
   ·rw [decide_eq_false b, Bool.false_and, Bool.and_false]
  ·rw [decide_eq_false a, Bool.false_and]
theorem ff {x y:Bool}:(x && (false && y)) = false:=Bool.and_false x
theorem row_deq {r1 r2:Row}:deqV σ 0 r1.v r2.v = some (decide (r1 = r2)):=by
 cases r1 with
 | ins k a b c =>
  cases r2 with
  | ins k' a' b' c' => exact congrArg some (and4 ⟨fun e => by cases e; exact ⟨rfl, rfl, rfl, rfl⟩, fun ⟨e1, e2, e3, e4⟩ => by rw [nm_inj e1, e2, e3, e4]⟩)
  | trap c' n m => exact congrArg some (ff.trans (decide_eq_false fun e => nomatch e).symm)
 | trap c n m =>
  cases r2 with
  | ins k' a' b' c' => exact congrArg some (ff.trans (decide_eq_false fun e => nomatch e).symm)
  | trap c' n' m' =>
   have q:=and4 (p:=Str.ofString "TRAP" = Str.ofString "TRAP") (q:=c = c') (r:=n = n') (s:=m = m') (t:=Row.trap c n m = Row.trap c' n' m') ⟨fun e => by cases e; exact ⟨rfl, rfl, rfl, rfl⟩, fun ⟨_, e2, e3, e4⟩ => by rw [e2, e3, e4]⟩
   exact congrArg some q
theorem slice_tup {xs:List V} {n:Nat} {Q:V → Store → Prop} (h1:1 ≤ n) (h2:n ≤ xs.length) (h3:xs.length ≤ 1000) (q:Q (.tup (xs.drop n)) σ):sliceW (.tup xs) (.int ((n:Nat):Int)) .none σ Q:=⟨h1, h2, h3, q⟩
theorem range_one {n:Nat}:rangeInts 1 n 1 = (List.range (n - 1)).map (fun (i:Nat) => V.int ((i + 1:Nat):Int)):=by
 unfold rangeInts
 rw [if_pos rfl]
 have:((n:Int) - 1).toNat = n - 1:=by omega
 rw [this]
 refine List.map_congr_left fun i _ => ?_
 congr 1; omega
noncomputable def numX:X:=.call "number_run" [(.list [(.var "one"), (.var "two")]), (.dict [] [])]
theorem num_call (hn:Γ.fn "number_run" = some sp_number) {ρ:Loc} {r1 r2:Row} {Q:V → Store → Prop} (g1:ρ.get "one" = some r1.v) (g2:ρ.get "two" = some r2.v) (o1:r1.Ok) (o2:r2.Ok) (h:∀ d σ', Ext σ σ' → σ' d = some (.list ((numberRun noFx [r1, r2]).map orow)) → Q (.ref d) σ'):wX Γ numX ρ σ Q:=by
 refine x_call hn <| xs_cons <| x_list <| xs_cons <| x_var g1 <| xs_cons <| x_var g2 <| xs_nil fun l hl => xs_cons <| x_empty fun f hf => xs_nil ?_
 obtain ⟨n1, hf0⟩:=free_of hf
 refine ⟨l, f, [r1, r2], noFx, rfl, (set_ne n1.symm).trans set_eq, ⟨[], set_eq, Nat.zero_le _, (fun e he => nomatch he), fun i => rfl⟩, (by decide:2 ≤ 100), fun x hx => ?_, fun d σ' hd ed x => h d σ' (((Ext.new hl).trans (Ext.new hf)).trans x) ed⟩
 rcases List.mem_cons.mp hx with rfl | hx
 ·exact o1
 ·rw [List.mem_singleton.mp hx]; exact o2
noncomputable def w1S:Mini.S:=.ite (.boolop false [(.cmp .Eq (.sub (.var "one") (.lit (.int (0)))) (.lit (.str "STR"))), (.cmp .Eq (.sub (.var "two") (.lit (.int (0)))) (.lit (.str "LDR"))), (.cmp .Eq (.slice (.var "one") (some (.lit (.int (1)))) none) (.slice (.var "two") (some (.lit (.int (1)))) none)), (.cmp .IsNot (.sub numX (.lit (.int (1)))) (.lit .none))]) [.ret (.lit (.bool false))] []
noncomputable def w2S:Mini.S:=.ite (.boolop false [(.cmp .Eq (.sub (.var "one") (.lit (.int (0)))) (.lit (.str "STR"))), (.cmp .Eq (.sub (.var "two") (.lit (.int (0)))) (.lit (.str "STR"))), (.cmp .Eq (.slice (.var "one") (some (.lit (.int (2)))) none) (.slice (.var "two") (some (.lit (.int (2)))) none)), (.cmp .NotEq (.meth numX "count" [(.lit .none)]) (.lit (.int (1))))]) [.ret (.lit (.bool false))] []
noncomputable def w3S:Mini.S:=.ite (.boolop false [(.cmp .Eq (.sub (.var "one") (.lit (.int (0)))) (.lit (.str "LDR"))), (.cmp .Eq (.var "one") (.var "two")), (.cmp .NotEq (.sub (.var "one") (.lit (.int (1)))) (.sub (.var "one") (.lit (.int (2))))), (.cmp .IsNot (.sub numX (.lit (.int (1)))) (.lit .none))]) [.ret (.lit (.bool false))] []
theorem name_test {x:String} {nm:String} {ρ:Loc} {r:Row} {Q:Bool → Store → Prop} (g:ρ.get x = some r.v) (h:Q (decide (r.nm = Str.ofString nm)) σ):wT Γ (.cmp .Eq (.sub (.var x) (.lit (.int (0)))) (.lit (.str nm))) ρ σ Q :=
 t_cmp <| x_sub <| x_var g <| x_lit <| i0r <| x_lit <| c_eqs h
section
variable {ρ:Loc} {K:Fl → Loc → Store → Prop} {r:List Mini.S}
theorem and_step {x:X} {r:List X} {p:Prop} [Decidable p] {Q:Bool → Store → Prop} (hx:∀ R:Bool → Store → Prop, R (decide p) σ → wT Γ x ρ σ R) (h0:Q false σ) (h1:p → wTs Γ false r ρ σ Q):wTs Γ false (x :: r) ρ σ Q :=
 ts_cons <| hx _ <| ifnD (fun _ => h0) h1
theorem ite_out {c:List X} (h:wTs Γ false c ρ σ fun b σ₁ => if b = true then wSs Γ [.ret (.lit (.bool false))] ρ σ₁ (seqK Γ r K) else wSs Γ r ρ σ₁ K):wSs Γ (.ite (.boolop false c) [.ret (.lit (.bool false))] [] :: r) ρ σ K:=s_if <| t_bool h
theorem slice_test {k1 k2:Kd} {a b c a' b' c':Int} (n:Nat) (hn:n = 1 ∨ n = 2) (g1:ρ.get "one" = some (.tup [.str k1.nm, .int a, .int b, .int c])) (g2:ρ.get "two" = some (.tup [.str k2.nm, .int a', .int b', .int c'])):∀ R:Bool → Store → Prop, R (decide ((n = 1 → a = a') ∧ b = b' ∧ c = c')) σ →
  wT Γ (.cmp .Eq (.slice (.var "one") (some (.lit (.int ((n:Nat):Int)))) none) (.slice (.var "two") (some (.lit (.int ((n:Nat):Int)))) none)) ρ σ R:=by
 intro R hR
 have bd:1 ≤ n ∧ n ≤ 4:=by rcases hn with rfl | rfl <;> decide
 refine t_cmp <| x_slice <| x_var g1 <| o_some <| x_lit <| o_none <| slice_tup bd.1 bd.2 (by decide:4 ≤ 1000) <| x_slice <| x_var g2 <| o_some <| x_lit <| o_none <| slice_tup bd.1 bd.2 (by decide:4 ≤ 1000) ?_
 have q:=and4 (p:=True) (q:=n = 1 → a = a') (r:=b = b') (s:=c = c') (t:=(n = 1 → a = a') ∧ b = b' ∧ c = c') ⟨fun h => ⟨trivial, h⟩, fun h => h.2⟩
 rcases hn with rfl | rfl
 ·refine c_eq (r:=decide (a = a') && (decide (b = b') && (decide (c = c') && true))) rfl ?_
  rw [← q] at hR
  have:decide (1 = 1 → a = a') = decide (a = a'):=decide_eq_decide.mpr ⟨fun h => h rfl, fun h _ => h⟩
  rw [this] at hR; exact hR
 ·refine c_eq (r:=decide (b = b') && (decide (c = c') && true)) rfl ?_
  rw [← q] at hR
  have:decide (2 = 1 → a = a') = true:=decide_eq_true fun z => absurd z (by decide)
  rw [this] at hR; exact hR
theorem item_none {l:List (Option Row)} {d:Addr} {Q:V → Store → Prop} (e:σ d = some (.list (l.map orow))) (hl:l.length ≤ 1000) (h1:l[1]? = some none) (q:Q .none σ):getItemW (.ref d) (.int 1) σ Q :=
 lst_at (j:=1) e (len_map hl (by decide)) (by rw [List.getElem?_map, h1]; rfl) q
theorem two_len {fx:Int → Bool} {r1 r2:Row}:(numberRun fx [r1, r2]).length ≤ 1000:=by rw [num_len]; exact (by decide:2 ≤ 1000)
theorem w1_run (hn:Γ.fn "number_run" = some sp_number) {r1 r2:Row} (g1:ρ.get "one" = some r1.v) (g2:ρ.get "two" = some r2.v) (o1:r1.Ok) (o2:r2.Ok) (h:∀ σ', Ext σ σ' → wSs Γ r ρ σ' K):wSs Γ (w1S :: r) ρ σ K:=by
 have h0:=h σ (Ext.refl σ)
 refine ite_out (and_step (p:=r1.nm = Str.ofString "STR") (fun R hR => name_test g1 hR) (ifF rfl h0) fun e1 => and_step (p:=r2.nm = Str.ofString "LDR") (fun R hR => name_test g2 hR) (ifF rfl h0) fun e2 => ?_)
 obtain ⟨a, b, c, rfl⟩:=nm_ins (k:=.str) e1
 obtain ⟨a', b', c', rfl⟩:=nm_ins (k:=.ldr) e2
 refine and_step (slice_test 1 (.inl rfl) g1 g2) (ifF rfl h0) fun e3 => ?_
 obtain ⟨q1, rfl, rfl⟩:=e3
 obtain rfl:=q1 rfl
 exact ts_cons <| t_cmp <| x_sub <| num_call hn g1 g2 o1 o2 fun d σ' x ed => x_lit <| item_none ed two_len (wins1 a b c) <| x_lit <| c_isnot <| ifnF rfl <| ifF rfl <| h σ' x
theorem w3_run (hn:Γ.fn "number_run" = some sp_number) {r1 r2:Row} (g1:ρ.get "one" = some r1.v) (g2:ρ.get "two" = some r2.v) (o1:r1.Ok) (o2:r2.Ok) (h:∀ σ', Ext σ σ' → wSs Γ r ρ σ' K):wSs Γ (w3S :: r) ρ σ K:=by
 have h0:=h σ (Ext.refl σ)
 refine ite_out (and_step (p:=r1.nm = Str.ofString "LDR") (fun R hR => name_test g1 hR) (ifF rfl h0) fun e1 => ?_)
 obtain ⟨a, b, c, rfl⟩:=nm_ins (k:=.ldr) e1
 refine and_step (p:=Row.ins .ldr a b c = r2) (fun R hR => t_cmp <| x_var g1 <| x_var g2 <| c_eq row_deq hR) (ifF rfl h0) fun e2 => ?_
 subst e2
 have g1':ρ.get "one" = some (.tup [.str (Kd.nm .ldr), .int a, .int b, .int c]):=g1
 refine and_step (p:=¬ a = b) (fun R hR => t_cmp <| v1 g1' <| v2 g1' <| c_nei (by rw [← decide_not]; exact hR)) (ifF rfl h0) fun e3 => ?_
 exact ts_cons <| t_cmp <| x_sub <| num_call hn g1 g2 o1 o2 fun d σ' x ed => x_lit <| item_none ed two_len (wins3 a b c e3) <| x_lit <| c_isnot <| ifnF rfl <| ifF rfl <| h σ' x
theorem w2_run (hn:Γ.fn "number_run" = some sp_number) {r1 r2:Row} (g1:ρ.get "one" = some r1.v) (g2:ρ.get "two" = some r2.v) (o1:r1.Ok) (o2:r2.Ok) (h:∀ σ', Ext σ σ' → wSs Γ r ρ σ' K):wSs Γ (w2S :: r) ρ σ K:=by
 have h0:=h σ (Ext.refl σ)
 refine ite_out (and_step (p:=r1.nm = Str.ofString "STR") (fun R hR => name_test g1 hR) (ifF rfl h0) fun e1 => and_step (p:=r2.nm = Str.ofString "STR") (fun R hR => name_test g2 hR) (ifF rfl h0) fun e2 => ?_)
 obtain ⟨a, b, c, rfl⟩:=nm_ins (k:=.str) e1
 obtain ⟨a', b', c', rfl⟩:=nm_ins (k:=.str) e2
 refine and_step (slice_test 2 (.inr rfl) g1 g2) (ifF rfl h0) fun e3 => ?_
 obtain ⟨_, rfl, rfl⟩:=e3
 refine ts_cons <| t_cmp <| x_meth <| num_call hn g1 g2 o1 o2 fun d σ' x ed => lst_kcount ed <| xs_cons <| x_lit <| xs_nil ⟨_, ed, by rw [List.length_map]; exact Nat.le_trans two_len (by decide), fun v hv => ?_, ?_⟩
 ·obtain ⟨o, _, rfl⟩:=List.mem_map.mp hv
  cases o with
  | none => exact .inl rfl
  | some r => cases r <;> exact .inr rfl
 ·rw [wins2]
  exact x_lit <| c_nei <| ifnF rfl <| ifF rfl <| h σ' x
end
end
end Mini
end
section
namespace Mini
open PySem PySem.W PyProof.Rows
noncomputable def sp_wins:Spec:=fun vs σ Q => ∃ (s f:Addr) (rows:List Row) (fx:Int → Bool), vs = [.ref s, .ref f] ∧ σ s = some (.list (rows.map Row.v)) ∧ FixD σ f fx ∧ rows.length ≤ 100 ∧ (∀ x ∈ rows, x.Ok) ∧ ∀ σ', Ext σ σ' → Q (.bool true) σ'
section
variable {σ σ':Store} {Γ:GE}
noncomputable def winsBody:List Mini.S:=.assign "one" (.sub (.var "steps") (.bin .Sub (.var "spot") (.lit (.int (1))))) :: .assign "two" (.sub (.var "steps") (.var "spot")) :: w1S :: w2S :: [w3S]
theorem r_up {n:Nat} {R:List V → Prop} (hn:n ≤ 100000) (h:R ((List.range (n - 1)).map fun (i:Nat) => V.int ((i + 1:Nat):Int))):rangeW [.int 1, .int n] R:=r_two (by decide) (nat_rng hn) (by rw [range_one]; exact h)
theorem ok_wins (hn:Γ.fn "number_run" = some sp_number) {vs:List V} {σ:Store} {Q:V → Store → Prop} (h:sp_wins vs σ Q):wBody Γ ["steps", "later_on"] b__law_plain_wins vs σ Q:=by
 obtain ⟨s, f, rows, fx, rfl, er, ⟨es, ef, el, et, eg⟩, hl, hok, hq⟩:=h
 refine body_intro rfl ?_
 show wSs Γ (.ite (.cmp .Gt (.bcall .len [(.var "later_on")]) (.lit (.int (0)))) [.ret (.lit (.bool true))] [] :: .for_ "spot" (.range [(.lit (.int (1))), (.bcall .len [(.var "steps")])]) winsBody :: [.ret (.lit (.bool true))]) _ σ _
 generalize hρ:((Loc.set [] "steps" (V.ref s)).set "later_on" (.ref f)) = ρ
 have g1:ρ.get "steps" = some (.ref s):=hρ ▸ g_th g_here
 have g2:ρ.get "later_on" = some (.ref f):=hρ ▸ g_here
 refine s_if <| t_cmp <| x_bcall <| xs_cons <| x_var g2 <| xs_nil <| dct_len ef (Nat.le_trans el (by decide)) et <| x_lit <| c_gt <| ifD (fun q => s_ret <| x_lit <| hq σ (Ext.refl σ)) fun q => ?_
 refine s_for <| i_range <| xs_cons <| x_lit <| xs_cons <| x_bcall <| xs_cons <| x_var g1 <| xs_nil <| lst_len er (len_map hl (by decide)) <| xs_nil <| r_up (len_map hl (by decide)) ?_
 rw [List.length_map]
 refine for_range (fun j ρ σ' => Ext σ σ' ∧ ρ.get "steps" = some (.ref s)) ⟨Ext.refl σ, g1⟩ ?_ ?_
 ·rintro j ρ' σ' K' hj ⟨x, i1⟩ q1 q2 q3
  have lj:j + 1 < rows.length:=Nat.add_lt_of_lt_sub hj
  have l0:j < rows.length:=Nat.lt_of_succ_lt lj
  have at_:∀ {i:Nat} (h:i < rows.length), (rows.map Row.v)[i]? = some rows[i].v:=fun h => by rw [List.getElem?_map, List.getElem?_eq_getElem h]; rfl
  have o1:=hok _ (List.getElem_mem l0)
  have o2:=hok _ (List.getElem_mem lj)
  refine s_assign <| x_sub <| x_var (g_th i1) <| x_bin <| x_var g_here <| x_lit <| n_sub ?_
  rw [show ((j + 1:Nat):Int) - 1 = (j:Int) from Int.add_sub_cancel (j:Int) 1]
  refine lst_at (x _ _ er) (len_map hl (by decide)) (at_ l0) <| s_assign <| x_sub <| x_var (g_th (g_th i1)) <| x_var (g_th g_here) <| lst_at (x _ _ er) (len_map hl (by decide)) (at_ lj) ?_
  exact w1_run hn (g_th g_here) g_here o1 o2 fun σ1 x1 => w2_run hn (g_th g_here) g_here o1 o2 fun σ2 x2 => w3_run hn (g_th g_here) g_here o1 o2 fun σ3 x3 => s_nil <| q2 _ _ ⟨((x.trans x1).trans x2).trans x3, g_th (g_th (g_th i1))⟩
 ·rintro ρ' σ' ⟨x, i1⟩
  exact s_ret <| x_lit <| hq σ' x
theorem ints_eq {n:Nat}:∀ l:List Int, allW (eqA n) (l.map V.int) (l.map V.int) = some true:=by
 intro l
 induction l with
 | nil => rfl
 | cons x l ih =>
  show and2 (eqA n (.int x) (.int x)) (allW (eqA n) (l.map V.int) (l.map V.int)) = some true
  rw [eqA_int, ih, decide_eq_true rfl]; rfl
theorem list_deq {n:Nat} {a b:Addr} {l:List Int} (ea:σ a = some (.list (l.map V.int))) (eb:σ b = some (.list (l.map V.int))):deqV σ n (.ref a) (.ref b) = some true :=
 (deq_lists ea eb).trans ((if_neg fun z => z rfl).trans (ints_eq l))
theorem sub_true {n:Nat} {fs:List (Key × V)}:∀ es:List (Key × V), (∀ e ∈ es, ∃ x i, e.1 = kI x ∧ e.2 = .int i ∧ aget fs (kI x) = some (.int i)) → subW (deqV σ n) fs es = some true:=by
 intro es
 induction es with
 | nil => intro _; rfl
 | cons e es ih =>
  intro h
  obtain ⟨x, i, e1, e2, e3⟩:=h e List.mem_cons_self
  show subStep e.1 (aget fs e.1) (deqV σ n e.2) (subW (deqV σ n) fs es) = _
  rw [ih fun e he => h e (List.mem_cons_of_mem _ he), e1, e3, e2]
  show (deqV σ n (.int i) (.int i)).bind (fun a => some (a && true)) = some true
  rw [deq_int, decide_eq_true rfl]; rfl
theorem deq_dicts {n:Nat} {a b:Addr} {es fs:List (Key × V)} (ne:a ≠ b) (ea:σ a = some (.dict es)) (eb:σ b = some (.dict fs)) (nt:(fs.any fun e => e.1.isTp) = false) (hl:es.length = fs.length) (hs:subW (deqV σ n) fs es = some true):deqV σ (n + 1) (.ref a) (.ref b) = some true:=by
 show deqR σ (some (deqV σ n)) a b = _
 unfold deqR
 rw [ea, eb]
 show (if a = b ∨ (fs.any fun e => e.1.isTp) = true then Option.none else (subW (deqV σ n) fs es).map (es.length == fs.length && ·)) = _
 rw [if_neg (fun z => z.elim ne fun y => Bool.false_ne_true (nt.symm.trans y)), hs, hl]
 exact congrArg some (Bool.and_eq_true_iff.mpr ⟨beq_self_eq_true _, rfl⟩)
theorem len_of_keys {es fs:List (Key × V)} (h1:(es.map (·.1)).Nodup) (h2:(fs.map (·.1)).Nodup) (h:∀ k, (aget es k).isSome = (aget fs k).isSome):es.length = fs.length:=by
 have mem:∀ (l:List (Key × V)) k, k ∈ l.map (·.1) ↔ (aget l k).isSome = true:=fun l k => by
  rw [← any_aget, List.any_eq_true, List.mem_map]
  exact ⟨fun ⟨e, he, q⟩ => ⟨e, he, decide_eq_true q⟩, fun ⟨e, he, q⟩ => ⟨e, he, of_decide_eq_true q⟩⟩
 have p:(es.map (·.1)).Perm (fs.map (·.1)):=(List.perm_ext_iff_of_nodup h1 h2).mpr fun k => by rw [mem, mem, h k]
 have:=p.length_eq
 rw [List.length_map, List.length_map] at this; exact this
theorem bytes_deq {n:Nat} {a b:Addr} {es fs:List (Key × V)} {m:Int → Int} {B:Nat} (ne:a ≠ b) (ea:σ a = some (.dict es)) (eb:σ b = some (.dict fs)) (ha:ByK m B es) (hb:ByK m B fs) (ta:∀ e ∈ es, ∃ i, e.2 = .int i ∧ i ≠ 0) (tb:∀ e ∈ fs, ∃ i, e.2 = .int i ∧ i ≠ 0):deqV σ (n + 1) (.ref a) (.ref b) = some true:=by
 obtain ⟨⟨g, mg, hg⟩, ng⟩:=ha
 obtain ⟨⟨f, mf, hf⟩, nf⟩:=hb
 have nz:∀ (l:List (Key × V)) (w:Int → Option Int), MapK kI w B l → (∀ e ∈ l, ∃ i, e.2 = .int i ∧ i ≠ 0) → ∀ x, w x ≠ some 0:=fun l w mw tl x z => by
  have q:=mw.at_ x
  rw [z] at q
  unfold aget at q
  cases hfi:l.find? (fun e => decide (e.1 = kI x)) with
  | none => rw [hfi] at q; cases q
  | some e =>
   rw [hfi] at q
   obtain ⟨i, h1, h2⟩:=tl e (List.mem_of_find?_eq_some hfi)
   have q:=Option.some.inj (show some e.2 = some (V.int 0) from q)
   rw [h1] at q
   cases q; exact h2 rfl
 have same:∀ x, g x = f x:=fun x => by
  have e:(g x).getD 0 = (f x).getD 0:=by rw [hg, hf]
  have z1:=nz es g mg ta x
  have z2:=nz fs f mf tb x
  cases p:g x with
  | none =>
   cases q:f x with
   | none => rfl
   | some j => rw [p, q] at e; rw [q, ← (show (0:Int) = j from e)] at z2; exact absurd rfl z2
  | some i =>
   cases q:f x with
   | none => rw [p, q] at e; rw [p, show i = 0 from e] at z1; exact absurd rfl z1
   | some j => rw [p, q] at e; rw [show i = j from e]
 have keys:∀ k, (aget es k).isSome = (aget fs k).isSome:=fun k => by
  have one:∀ (l l':List (Key × V)) (w w':Int → Option Int), MapK kI w B l → MapK kI w' B l' → (∀ x, w x = w' x) → (aget l k).isSome = true → (aget l' k).isSome = true:=fun l l' w w' mw mw' hw hs => by
   rw [← any_aget, List.any_eq_true] at hs
   obtain ⟨e, he, q⟩:=hs
   obtain ⟨x, v, e1, _⟩:=mw.shape e he
   have:k = kI x:=by rw [← e1]; exact (of_decide_eq_true q).symm
   subst this
   have h1:(aget l (kI x)).isSome = true:=by rw [← any_aget, List.any_eq_true]; exact ⟨e, he, q⟩
   rw [mw.at_, Option.isSome_map, hw] at h1
   rw [mw'.at_, Option.isSome_map]; exact h1
  cases p:(aget es k).isSome with
  | true => exact (one es fs g f mg mf same p).symm
  | false =>
   cases q:(aget fs k).isSome with
   | false => rfl
   | true => rw [one fs es f g mf mg (fun x => (same x).symm) q] at p; cases p
 have nt:(fs.any fun e => e.1.isTp) = false:=by
  rw [List.any_eq_false]
  intro e he
  obtain ⟨x, v, e1, _⟩:=mf.shape e he
  rw [e1]; exact Bool.false_ne_true
 refine deq_dicts ne ea eb nt (len_of_keys ng nf keys) (sub_true es fun e he => ?_)
 obtain ⟨x, v, e1, e2⟩:=mg.shape e he
 have h1:(aget es (kI x)) = (g x).map V.int:=mg.at_ x
 have h2:aget es e.1 = some e.2:=by
  clear h1
  have:∀ (l:List (Key × V)), (l.map (·.1)).Nodup → e ∈ l → aget l e.1 = some e.2:=by
   intro l
   induction l with
   | nil => intro _ h; simp at h
   | cons y l ih =>
    intro nd h
    rw [aget_cons]
    rw [List.map_cons, List.nodup_cons] at nd
    rcases List.mem_cons.mp h with rfl | h
    ·rw [if_pos rfl]
    ·rw [if_neg (fun z => nd.1 (by rw [z]; exact List.mem_map_of_mem h))]
     exact ih nd.2 h
  exact this es ng he
 rw [e1, e2, h1] at h2
 refine ⟨x, v, e1, e2, ?_⟩
 rw [mf.at_, ← same x]; exact h2
theorem state_deq {A C:SA} {s:St} {B:Nat} (ha:IsSt σ A s B) (hc:IsSt σ C s B) (ta:Tidy σ A) (tc:Tidy σ C) (np:A.p ≠ C.p) (nm:A.m ≠ C.m):deqV σ 2 (.ref A.p) (.ref C.p) = some true:=by
 have rl:∀ f:Int → Int, rgV f = ((List.range 16).map fun (i:Nat) => f i).map V.int:=fun f => by unfold rgV; rw [List.map_map]; rfl
 have fl:∀ f:Int × Int × Int × Int, flV f = [f.1, f.2.1, f.2.2.1, f.2.2.2].map V.int:=fun f => rfl
 have d1:deqV σ 1 (.ref A.r) (.ref C.r) = some true:=list_deq (by rw [ha.rg, rl]) (by rw [hc.rg, rl])
 have d3:deqV σ 1 (.ref A.f) (.ref C.f) = some true:=list_deq (by rw [ha.fl, fl]) (by rw [hc.fl, fl])
 obtain ⟨es, e1, k1⟩:=ha.by_
 obtain ⟨fs, e2, k2⟩:=hc.by_
 obtain ⟨es', e1', t1⟩:=ta
 obtain ⟨fs', e2', t2⟩:=tc
 rw [e1] at e1'; cases e1'
 rw [e2] at e2'; cases e2'
 have d2:deqV σ 1 (.ref A.m) (.ref C.m) = some true:=bytes_deq nm e1 e2 k1 k2 t1 t2
 have g1:aget (stD C s.high) (kS "regs") = some (.ref C.r):=st_regs
 have g2:aget (stD C s.high) (kS "bytes") = some (.ref C.m):=st_bytes
 have g3:aget (stD C s.high) (kS "flags") = some (.ref C.f):=st_flags
 have g4:aget (stD C s.high) (kS "high") = some (.int s.high):=st_high
 have nt:((stD C s.high).any fun e => e.1.isTp) = false:=rfl
 refine deq_dicts np ha.st hc.st nt rfl ?_
 have st:∀ {k:String} {u v:V} {es fs:List (Key × V)}, aget fs (kS k) = some v → deqV σ 1 u v = some true → subW (deqV σ 1) fs es = some true → subW (deqV σ 1) fs ((kS k, u) :: es) = some true:=fun {k u v es fs} h1 h2 h3 => by
  show subStep (kS k) (aget fs (kS k)) (deqV σ 1 u) (subW (deqV σ 1) fs es) = _
  rw [h1, h3]
  show (deqV σ 1 u v).bind (fun a => some (a && true)) = some true
  rw [h2]; rfl
 exact st g1 d1 <| st g2 d2 <| st g3 d3 <| st g4 (deq_int.trans (congrArg some (decide_eq_true rfl))) rfl
end
end Mini
end
section
namespace Mini
open PySem PySem.W PyProof.Rows
section
variable {σ σ':Store} {Γ:GE}
theorem app_one {α:Type} {acc rest:List α} {x:α}:acc ++ [x] ++ rest = acc ++ x :: rest:=by rw [List.append_assoc]; rfl
theorem steps_comp (hr:Γ.fn "_law_row_of" = some sp_row_of) {ρ:Loc} {d:Addr} (g:ρ.get "row" = some (.ref d)) {Q:List V → Store → Prop}:∀ (l:List V) (acc:List V) (σ:Store), Dr σ d → (∀ (rows':List Row) σ', (∀ r ∈ rows', r.Ok) → rows'.length = l.length → Dr σ' d → ExtB d σ σ' → Q (acc ++ rows'.map Row.v) σ') →
  compLoop (fun _ => True) (fun ρ' σ' Q' => wIfs Γ [] ρ' σ' Q') (fun (acc:List V) ρ' σ' Q' => wX Γ (.call "_law_row_of" [(.var "row")]) ρ' σ' fun v σ'' => Q' (acc ++ [v]) σ'') "lap" ρ l acc σ Q:=by
 intro l
 induction l with
 | nil =>
  intro acc σ D h
  have q:=h [] σ (fun r hr => nomatch hr) rfl D ExtB.refl
  rw [List.map_nil, List.append_nil] at q
  exact cl_nil trivial q
 | cons x l ih =>
  intro acc σ D h
  refine cl_all trivial <| x_call hr <| xs_cons <| x_var (g_th g) <| xs_nil ⟨d, rfl, D, fun r σ1 ok D1 x1 => ih (acc ++ [r.v]) σ1 D1 fun rows' σ2 ok2 hl D2 x2 => ?_⟩
  rw [app_one]
  exact h (r :: rows') σ2 (fun y hy => (List.mem_cons.mp hy).elim (fun e => e ▸ ok) (ok2 y)) (congrArg Nat.succ hl) D2 (x1.trans x2)
theorem ahead_comp (hd:Γ.fn "_law_draw" = some sp_draw) {ρ:Loc} {d:Addr} (g:ρ.get "row" = some (.ref d)) {Q:List V → Store → Prop}:∀ (l:List V) (acc:List V) (σ:Store), Dr σ d → (∀ (zs:List Int) σ', (∀ z ∈ zs, 0 ≤ z ∧ z < 80) → zs.length = l.length → Dr σ' d → ExtB d σ σ' → Q (acc ++ zs.map V.int) σ') →
  compLoop (fun _ => True) (fun ρ' σ' Q' => wIfs Γ [] ρ' σ' Q') (fun (acc:List V) ρ' σ' Q' => wX Γ (.bin .Mult (.lit (.int (2))) (.call "_law_draw" [(.var "row"), (.lit (.int (40)))])) ρ' σ' fun v σ'' => Q' (acc ++ [v]) σ'') "lap" ρ l acc σ Q:=by
 intro l
 induction l with
 | nil =>
  intro acc σ D h
  have q:=h [] σ (fun r hr => nomatch hr) rfl D ExtB.refl
  rw [List.map_nil, List.append_nil] at q
  exact cl_nil trivial q
 | cons x l ih =>
  intro acc σ D h
  refine cl_all trivial <| x_bin <| x_lit <| drawX hd (g_th g) D (by decide) fun v σ1 v0 v1 D1 x1 => n_mul (.inl (by decide)) <| ih (acc ++ [.int (2 * v)]) σ1 D1 fun zs σ2 ok2 hl D2 x2 => ?_
  rw [app_one]
  exact h (2 * v :: zs) σ2 (fun y hy => (List.mem_cons.mp hy).elim (fun e => e ▸ ⟨Int.mul_nonneg (by decide) v0, Int.mul_lt_mul_of_pos_left v1 (by decide)⟩) (ok2 y)) (congrArg Nat.succ hl) D2 (x1.trans x2)
noncomputable def LaterI (σ:Store) (f:Addr) (rows:List Row) (n:Nat):Prop:=∃ es, σ f = some (.dict es) ∧ es.length ≤ n ∧ ∀ e ∈ es, ∃ j:Nat, e.1 = kI j ∧ ∃ k a b c, rows[j]? = some (.ins k a b c) ∧ k.regd = false
noncomputable def laterBody:List Mini.S:=[.assign "spot" (.call "_law_draw" [(.var "row"), (.lit (.int (13)))]), .ite (.boolop false [(.cmp .Lt (.var "spot") (.bcall .len [(.var "steps")])), (.cmp .In (.sub (.sub (.var "steps") (.var "spot")) (.lit (.int (0)))) (.list (["LDR", "STR", "MOVI", "ADDI"].map fun (s:String) => X.lit (.str (Str.ofString s)))))]) [.setSub (.var "later_on") (.var "spot") (.lit (.bool true))] []]
theorem later_turn (hd:Γ.fn "_law_draw" = some sp_draw) {ρ:Loc} {d s f:Addr} {rows:List Row} {n:Nat} {K:Fl → Loc → Store → Prop} (g1:ρ.get "row" = some (.ref d)) (g2:ρ.get "steps" = some (.ref s)) (g3:ρ.get "later_on" = some (.ref f)) (nd:s ≠ d) (nf:f ≠ d) (ns:s ≠ f) (nn:d ≠ f)
  (D:Dr σ d) (es:σ s = some (.list (rows.map Row.v))) (hl:rows.length ≤ 100) (L:LaterI σ f rows n) (hn:n ≤ 1000)
  (h:∀ σ' ρ', Dr σ' d → σ' s = some (.list (rows.map Row.v)) → LaterI σ' f rows (n + 1) → (∀ x:String, x ≠ "spot" → ρ'.get (Str.ofString x) = ρ.get (Str.ofString x)) → K .next ρ' σ'):wSs Γ laterBody ρ σ K:=by
 refine s_assign <| drawX hd g1 D (by decide) fun v σ1 v0 v1 D1 x1 => ?_
 have es1:=x1 _ _ nd es
 obtain ⟨es', q1, q2, q3⟩:=L
 have q1:=x1 _ _ nf q1
 have m:∀ x:String, x ≠ "spot" → (ρ.set "spot" (.int v)).get (Str.ofString x) = ρ.get (Str.ofString x):=fun x hx => lget_ne hx
 have done:=h σ1 (ρ.set "spot" (.int v)) D1 es1 ⟨es', q1, Nat.le_succ_of_le q2, q3⟩ m
 refine s_if <| t_bool <| and_step (p:=v < rows.length) (fun R hR => t_cmp <| x_var g_here <| x_bcall <| xs_cons <| x_var (g_th g2) <| xs_nil <| lst_len es1 (len_map hl (by decide)) <| c_lt (by rw [List.length_map]; exact hR)) (ifF rfl <| s_nil done) fun hv => ?_
 obtain ⟨j, rfl, lt⟩:=of_nat v0 hv
 refine ts_cons <| t_cmp <| x_sub <| x_sub <| x_var (g_th g2) <| x_var g_here <| lst_at es1 (len_map hl (by decide)) (v:=rows[j].v) (by rw [List.getElem?_map, List.getElem?_eq_getElem lt]; rfl) <| x_lit ?_
 refine i0r <| x_list <| lits _ fun b hb => c_in <| in_list set_eq ?_
 have es2:=at_new (o':=.list (["LDR", "STR", "MOVI", "ADDI"].map fun (s:String) => V.str (Str.ofString s))) es1 hb
 have D2:=D1.new (o:=.list (["LDR", "STR", "MOVI", "ADDI"].map fun (s:String) => V.str (Str.ofString s))) hb
 have q1':=at_new (o':=.list (["LDR", "STR", "MOVI", "ADDI"].map fun (s:String) => V.str (Str.ofString s))) q1 hb
 refine ifnC (fun hc => ifF rfl <| s_nil <| h _ _ D2 es2 ⟨es', q1', Nat.le_succ_of_le q2, q3⟩ m) fun hc => ts_nil <| ifT rfl ?_
 have kind:∃ k a b c, rows[j]? = some (.ins k a b c) ∧ k.regd = false:=by
  have go:∀ k:Kd, rows[j].nm = k.nm → k.regd = false → ∃ k a b c, rows[j]? = some (.ins k a b c) ∧ k.regd = false:=fun k e hk => by
   obtain ⟨a, b, c, e2⟩:=nm_ins e
   exact ⟨k, a, b, c, by rw [List.getElem?_eq_getElem lt, e2], hk⟩
  have mem:=List.contains_iff_mem.mp hc
  rcases List.mem_cons.mp mem with e | mem
  ·exact go .ldr e rfl
  rcases List.mem_cons.mp mem with e | mem
  ·exact go .str e rfl
  rcases List.mem_cons.mp mem with e | mem
  ·exact go .movi e rfl
  ·exact go (.opi .add) (List.mem_singleton.mp mem) rfl
 refine s_sub <| x_lit <| x_var (g_th g3) <| x_var g_here ?_
 have tp:∀ e ∈ es', e.1.isTp = false:=fun e he => by obtain ⟨j, e1, _⟩:=q3 e he; rw [e1]; rfl
 unfold setItemW
 dsimp only
 rw [q1']
 refine ⟨kI j, rfl, fun e he => by rw [tp e he]; rfl, Nat.le_trans q2 (Nat.le_trans hn (by decide)), s_nil <| h _ _ ?_ ((set_ne ns).trans es2) ⟨_, set_eq, ?_, fun e he => ?_⟩ m⟩
 ·obtain ⟨zs, e, r⟩:=D2
  exact ⟨zs, (set_ne nn).trans e, r⟩
 ·exact Nat.le_trans (aset_len _ _ _) (Nat.succ_le_succ q2)
 ·rcases mem_aset he with q | ⟨q, _⟩
  ·exact q3 e q
  ·exact ⟨j, q, kind⟩
theorem rgV_list {L:List Int} (h:L.length = 16):rgV (fun i => L.getD i.toNat 0) = L.map V.int:=by
 refine List.ext_getElem? fun i => ?_
 unfold rgV
 rw [List.getElem?_map, List.getElem?_map]
 by_cases hi:i < 16
 ·have hi':i < L.length:=by rw [h]; exact hi
  rw [List.getElem?_range hi, List.getElem?_eq_getElem hi']
  show some (V.int (L.getD i 0)) = _
  rw [List.getD_eq_getElem?_getD, List.getElem?_eq_getElem hi']; rfl
 ·rw [List.getElem?_eq_none (by rw [List.length_range]; exact Nat.le_of_not_lt hi), List.getElem?_eq_none (by rw [h]; exact Nat.le_of_not_lt hi)]; rfl
theorem LaterI.fix {f:Addr} {rows:List Row} {n:Nat} (L:LaterI σ f rows n) (hn:n ≤ 1000):∃ fx, FixD σ f fx ∧ ∀ (j:Nat) k a b c, rows[j]? = some (.ins k a b c) → fx (j:Int) = true → k.regd = false:=by
 obtain ⟨es, e, hl, hk⟩:=L
 refine ⟨fun i => (aget es (kI i)).isSome, ⟨es, e, Nat.le_trans hl hn, fun e he => by obtain ⟨j, e1, _⟩:=hk e he; rw [e1]; rfl, fun i => rfl⟩, fun j k a b c h hf => ?_⟩
 have hf:(aget es (kI j)).isSome = true:=hf
 rw [← any_aget, List.any_eq_true] at hf
 obtain ⟨en, he, q⟩:=hf
 obtain ⟨j', e1, k', a', b', c', h', hr⟩:=hk en he
 have q:en.1 = kI j:=of_decide_eq_true q
 rw [q] at e1
 have:=kI_inj _ _ e1
 have:j = j':=Int.ofNat.inj this
 subst this
 rw [h] at h'
 cases h'; exact hr
end
end Mini
end
section
namespace Mini
open PySem PySem.W PyProof.Rows
structure LawFns (Γ:GE):Prop where
 figures:Γ.fn "_law_figures" = some sp_figures
 draw:Γ.fn "_law_draw" = some sp_draw
 row_of:Γ.fn "_law_row_of" = some sp_row_of
 number:Γ.fn "number_run" = some sp_number
 end_:Γ.fn "_law_end" = some sp_end
 wins:Γ.fn "_law_plain_wins" = some sp_wins
section
variable {σ σ':Store} {Γ:GE}
noncomputable def Fin:Fl → Loc → Store → Prop:=fun f _ _ => f = .ret (.bool true)
theorem rows_ne {s b:Addr} {rows:List Row} (es:σ s = some (.list (rows.map Row.v))) (eb:σ b = some (.list (rows.map Row.v))):deqV σ 0 (.ref s) (.ref b) = some true:=by
 refine (deq_lists es eb).trans ((if_neg fun z => z rfl).trans ?_)
 have one:∀ r:Row, eqA 3 r.v r.v = some true:=fun r => by
  cases r with
  | ins k a b c => exact congrArg some ((and4 (t:=True) ⟨fun _ => ⟨rfl, rfl, rfl, rfl⟩, fun _ => trivial⟩).trans (decide_eq_true trivial))
  | trap c n m => exact congrArg some ((and4 (p:=Str.ofString "TRAP" = Str.ofString "TRAP") (q:=c = c) (r:=n = n) (s:=m = m) (t:=True) ⟨fun _ => ⟨rfl, rfl, rfl, rfl⟩, fun _ => trivial⟩).trans (decide_eq_true trivial))
 induction rows with
 | nil => rfl
 | cons r l ih =>
  show and2 (eqA 3 r.v r.v) (allW (eqA 3) (l.map Row.v) (l.map Row.v)) = some true
  rw [one]
  have:∀ l:List Row, allW (eqA 3) (l.map Row.v) (l.map Row.v) = some true:=by
   intro l
   induction l with
   | nil => rfl
   | cons r l ih =>
    show and2 (eqA 3 r.v r.v) (allW (eqA 3) (l.map Row.v) (l.map Row.v)) = some true
    rw [one, ih]; rfl
  rw [this]; rfl
noncomputable def keepBody:List Mini.S:=[.ite (.boolop false [(.boolop true [(.cmp .In (.var "spot") (.var "later_on")), (.cmp .Eq (.sub (.sub (.var "steps") (.var "spot")) (.lit (.int (0)))) (.lit (.str "TRAP")))]), (.cmp .NotEq (.sub (.var "told") (.var "spot")) (.sub (.var "steps") (.var "spot")))]) [.ret (.lit (.bool false))] []]
theorem keep_turn {ρ:Loc} {s f t:Addr} {rows:List Row} {fx:Int → Bool} {j:Nat} {K:Fl → Loc → Store → Prop} (g1:ρ.get "steps" = some (.ref s)) (g2:ρ.get "later_on" = some (.ref f)) (g3:ρ.get "told" = some (.ref t)) (g4:ρ.get "spot" = some (.int j)) (es:σ s = some (.list (rows.map Row.v))) (hl:rows.length ≤ 100) (ef:FixD σ f fx) (et:σ t = some (.list ((numberRun fx rows).map orow))) (hj:j < rows.length)
  (h:K .next ρ σ):wSs Γ keepBody ρ σ K:=by
 have row:rows[j]? = some rows[j]:=List.getElem?_eq_getElem hj
 have at_:(rows.map Row.v)[j]? = some rows[j].v:=by rw [List.getElem?_map, row]; rfl
 have tl:((numberRun fx rows).map orow).length ≤ 100000:=by rw [List.length_map, num_len]; exact Nat.le_trans hl (by decide)
 have last:∀ {P:Bool → Store → Prop}, (fx j = true ∨ rows[j].ctl = true) → P false σ → wTs Γ false [(.cmp .NotEq (.sub (.var "told") (.var "spot")) (.sub (.var "steps") (.var "spot")))] ρ σ P:=by
  intro P hk hP
  have nk:=num_kept row hk
  exact ts_cons <| t_cmp <| x_sub <| x_var g3 <| x_var g4 <| lst_at et tl (v:=rows[j].v) (by rw [List.getElem?_map, nk]; rfl) <| x_sub <| x_var g1 <| x_var g4 <| lst_at es (len_map hl (by decide)) at_ <| c_ne (row_deq.trans (congrArg some (decide_eq_true rfl))) <| ifnF rfl hP
 refine s_if <| t_bool <| ts_cons <| t_bool <| ts_cons <| t_cmp <| x_var g4 <| x_var g2 <| c_in <| ef.in_ <| ifC (fun hf => ifnT rfl <| last (.inl hf) <| ifF rfl <| s_nil h) fun hf => ts_cons <| t_cmp <| x_sub <| x_sub <| x_var g1 <| x_var g4 <| lst_at es (len_map hl (by decide)) at_ <| x_lit ?_
 refine i0r <| x_lit <| c_eqs <| ifD (fun ht => ifnT rfl <| last (.inr ?_) <| ifF rfl <| s_nil h) fun ht => ts_nil <| ifnF rfl <| ifF rfl <| s_nil h
 cases hr:rows[j] with
 | trap => rfl
 | ins k a b c => rw [hr] at ht; exact absurd ht (nm_trap k)
theorem list_add {a b:Addr} {xs ys:List Int} {Q:V → Store → Prop} (ea:σ a = some (.list (xs.map V.int))) (eb:σ b = some (.list (ys.map V.int))) (hl:xs.length + ys.length ≤ 1000) (h:∀ c, σ c = none → Q (.ref c) (σ.set c (.list ((xs ++ ys).map V.int)))):binOp .Add (.ref a) (.ref b) σ Q:=by
 refine ⟨xs.map V.int, ys.map V.int, ea, eb, by rw [List.length_map, List.length_map]; exact hl, fun c hc => ?_⟩
 have:=h c hc
 rw [List.map_append] at this; exact this
theorem law_tail (F:LawFns Γ) {ρ:Loc} {s f a:Addr} {rows:List Row} {rg:Int → Int} {n:Nat} (g1:ρ.get "steps" = some (.ref s)) (g2:ρ.get "later_on" = some (.ref f)) (g3:ρ.get "ahead" = some (.ref a)) (es:σ s = some (.list (rows.map Row.v))) (hl:rows.length ≤ 100) (hok:∀ r ∈ rows, r.Ok) (L:LaterI σ f rows n) (hn:n ≤ 1000)
  (ea:σ a = some (.list (rgV rg))) (hrg:∀ r, 0 ≤ r → r < 16 → Rg (rg r)) :
  wSs Γ [.assign "before" (.bcall .list [(.var "steps")]), .assign "told" (.call "number_run" [(.var "steps"), (.var "later_on")]), .ite (.boolop true [(.cmp .NotEq (.var "steps") (.var "before")), (.cmp .NotEq (.bcall .len [(.var "told")]) (.bcall .len [(.var "steps")]))]) [.ret (.lit (.bool false))] [], .for_ "spot" (.range [(.bcall .len [(.var "steps")])]) keepBody, .ite (.cmp .NotEq (.call "_law_end" [(.var "told"), (.var "later_on"), (.var "ahead")]) (.call "_law_end" [(.var "steps"), (.var "later_on"), (.var "ahead")])) [.ret (.lit (.bool false))] [], .ret (.call "_law_plain_wins" [(.var "steps"), (.var "later_on")])] ρ σ Fin:=by
 obtain ⟨fx, ef, hfx⟩:=L.fix hn
 have lr:∀ {r:List V}, r.length = rows.length → r.length ≤ 100000:=fun e => by rw [e]; exact Nat.le_trans hl (by decide)
 have l1:(rows.map Row.v).length ≤ 100000:=len_map hl (by decide)
 have fixE:∀ {τ:Store}, Ext σ τ → FixD τ f fx:=fun {τ} x => by
  obtain ⟨e, t1, t2⟩:=ef
  exact ⟨e, x _ _ t1, t2⟩
 refine s_assign <| x_bcall <| xs_cons <| x_var g1 <| xs_nil <| lst_copy es l1 fun b hb => ?_
 have x1:Ext σ (σ.set b (.list (rows.map Row.v))):=Ext.new hb
 refine s_assign <| x_call F.number <| xs_cons <| x_var (g_th g1) <| xs_cons <| x_var (g_th g2) <| xs_nil ⟨s, f, rows, fx, rfl, x1 _ _ es, fixE x1, hl, hok, fun t σ2 ht et x2 => ?_⟩
 have x12:=x1.trans x2
 have es2:=x12 _ _ es
 show wSs Γ _ ((ρ.set "before" (.ref b)).set "told" (.ref t)) σ2 _
 generalize hρ2:(ρ.set "before" (.ref b)).set "told" (.ref t) = ρ2
 have k1:ρ2.get "steps" = some (.ref s):=hρ2 ▸ g_th (g_th g1)
 have k2:ρ2.get "later_on" = some (.ref f):=hρ2 ▸ g_th (g_th g2)
 have k3:ρ2.get "ahead" = some (.ref a):=hρ2 ▸ g_th (g_th g3)
 have k4:ρ2.get "told" = some (.ref t):=hρ2 ▸ g_here
 have k5:ρ2.get "before" = some (.ref b):=hρ2 ▸ g_th g_here
 have tl:((numberRun fx rows).map orow).length = rows.length:=by rw [List.length_map, num_len]
 have le:(((numberRun fx rows).map orow).length:Int) = ((rows.map Row.v).length:Int):=by rw [tl, List.length_map]
 refine s_if <| t_bool <| ts_cons <| t_cmp <| x_var k1 <| x_var k5 <| c_ne (rows_ne es2 (x2 _ _ set_eq)) <| ifF rfl <| ts_cons <| t_cmp <| x_bcall <| xs_cons <| x_var k4 <| xs_nil <| lst_len et (lr tl) <| x_bcall <| xs_cons <| x_var k1 <| xs_nil <| lst_len es2 l1 <| c_nei <| ifF (by rw [le, decide_eq_true rfl]; rfl) <| ts_nil <| ifF rfl ?_
 refine s_for <| i_range <| xs_cons <| x_bcall <| xs_cons <| x_var k1 <| xs_nil <| lst_len es2 l1 <| xs_nil <| r_nat l1 ?_
 rw [List.length_map]
 refine for_range (fun j ρ σ' => σ' = σ2 ∧ ρ.get "steps" = some (.ref s) ∧ ρ.get "later_on" = some (.ref f) ∧ ρ.get "ahead" = some (.ref a) ∧ ρ.get "told" = some (.ref t)) ⟨rfl, k1, k2, k3, k4⟩ ?_ ?_
 ·rintro j ρ' σ' K' hj ⟨rfl, i1, i2, i3, i4⟩ q1 q2 q3
  exact keep_turn (g_th i1) (g_th i2) (g_th i4) g_here es2 hl (fixE x12) et hj (q2 _ _ ⟨rfl, g_th i1, g_th i2, g_th i3, g_th i4⟩)
 ·rintro ρ' σ' ⟨rfl, i1, i2, i3, i4⟩
  refine s_if <| t_cmp <| x_call F.end_ <| xs_cons <| x_var i4 <| xs_cons <| x_var i2 <| xs_cons <| x_var i3 <| xs_nil ⟨t, f, a, numberRun fx rows, fx, rg, rfl, et, fixE x12, x12 _ _ ea, by rw [num_len]; exact hl, num_ok hok, num_fx hfx, hrg, fun A σ3 fA IA TA x3 => ?_⟩
  rw [num_run hok hfx (st0_good hrg)] at IA ⊢
  have em:(rows.map some).map orow = rows.map Row.v:=by rw [List.map_map]; rfl
  have x13:=x12.trans x3
  refine x_call F.end_ <| xs_cons <| x_var i1 <| xs_cons <| x_var i2 <| xs_cons <| x_var i3 <| xs_nil ⟨s, f, a, rows.map some, fx, rg, rfl, by rw [em]; exact x13 _ _ es, fixE x13, x13 _ _ ea, by rw [List.length_map]; exact hl, fun x hx => ?_, fun j k a b c e hh => hfx j k a b c ?_ hh, hrg, fun C σ4 fC IC TC x4 => ?_⟩
  ·obtain ⟨y, hy, e⟩:=List.mem_map.mp hx
   exact hok x (Option.some.inj e ▸ hy)
  ·rw [List.getElem?_map] at e
   obtain ⟨y, e1, e2⟩:=Option.map_eq_some_iff.mp e
   rw [e1, Option.some.inj e2]
  ·have there:∀ y ∈ A.all, y ∉ C.all:=fun y hy z => by
    have h1:=IA.there y hy
    rw [fC y z] at h1; exact nomatch h1
   have IA':=to_now IA x4
   have TA':Tidy σ4 A:=by
    obtain ⟨e, h1, h2⟩:=TA
    exact ⟨e, x4 _ _ h1, h2⟩
   have dq:=state_deq IA' IC TA' TC (fun z => there A.p p_all (z ▸ p_all)) (fun z => there A.m m_all (z ▸ m_all))
   have x14:=x13.trans x4
   have two:deqT σ4 [.int (runL fx 0 (rows.map some) (st0 rg)).1, .ref A.p] [.int (runL fx 0 (rows.map some) (st0 rg)).1, .ref C.p] = some true:=by
    show and2 (deqV σ4 2 (.int _) (.int _)) (and2 (deqV σ4 2 (.ref A.p) (.ref C.p)) (some true)) = some true
    rw [dq, deq_int, decide_eq_true rfl]; rfl
   exact c_net two <| ifF rfl <| s_ret <| x_call F.wins <| xs_cons <| x_var i1 <| xs_cons <| x_var i2 <| xs_nil ⟨s, f, rows, fx, rfl, x14 _ _ es, fixE x14, hl, hok, fun σ5 _ => rfl⟩
theorem ok_law (F:LawFns Γ) {l:Addr} {ns:List Int} (hns:¬ (63:Int) < (ns.length:Int)) (hs:σ l = some (.frozen (ns.map V.int))):wSs Γ b_law (Loc.set [] "script" (.ref l)) σ Fin:=by
 show wSs Γ (.assign "row" (.call "_law_figures" [(.var "script")]) :: .assign "steps" (.lcomp (.call "_law_row_of" [(.var "row")]) "lap" (.range [(.call "_law_draw" [(.var "row"), (.lit (.int (13)))])]) []) :: .assign "later_on" (.dict [] []) :: .for_ "lap" (.range [(.call "_law_draw" [(.var "row"), (.lit (.int (3)))])]) laterBody ::
  .assign "ahead" (.bin .Add (.bin .Add (.lcomp (.bin .Mult (.lit (.int (2))) (.call "_law_draw" [(.var "row"), (.lit (.int (40)))])) "lap" (.range [(.lit (.int (4)))]) []) (.list [(.lit (.int (1000))), (.bin .Add (.lit (.int (1000))) (.bin .Mult (.lit (.int (2))) (.call "_law_draw" [(.var "row"), (.lit (.int (5)))]))), (.lit (.int (12)))])) (.bin .Mult (.list [(.lit (.int (0)))]) (.lit (.int (9))))) :: _) _ σ _
 refine s_assign <| x_call F.figures <| xs_cons <| x_var g_here <| xs_nil ⟨l, ns, rfl, hs, Nat.le_trans (Int.ofNat_le.mp (Int.not_lt.mp hns)) (by decide), fun d σ1 hd D1 x1 => ?_⟩
 refine s_assign <| x_lcomp <| i_range <| xs_cons <| drawX F.draw g_here D1 (by decide) fun v σ2 v0 v1 D2 x2 => ?_
 obtain ⟨nv, rfl, hv⟩:=of_nat (n:=13) v0 v1
 have lv:nv ≤ 100:=Nat.le_trans (Nat.le_of_lt hv) (by decide)
 refine xs_nil <| r_nat (Nat.le_trans lv (by decide)) ⟨by rw [List.length_map, List.length_range]; exact Nat.le_trans lv (by decide), ?_⟩
 refine steps_comp F.row_of g_here _ [] σ2 D2 fun rows σ3 hok hrl D3 x3 => ?_
 have hl:rows.length ≤ 100:=by rw [hrl, List.length_map, List.length_range]; exact lv
 intro s hsn
 have hsn:σ3 s = none:=hsn
 have dne:∀ {τ:Store} {y:Addr}, Dr τ d → τ y = none → y ≠ d:=fun {τ y} D e z => by obtain ⟨zs, e', _⟩:=D; rw [z, e'] at e; exact nomatch e
 have ns_d:s ≠ d:=dne D3 hsn
 refine s_assign <| x_empty fun f hf => ?_
 obtain ⟨nf_s, hf⟩:=free_of (show (σ3.set s (.list (rows.map Row.v))) f = none from hf)
 have nf_d:f ≠ d:=dne D3 hf
 show wSs Γ _ _ ((σ3.set s (.list (rows.map Row.v))).set f (.dict [])) _
 generalize hσ4:((σ3.set s (.list (rows.map Row.v))).set f (.dict [])) = σ4
 have es4:σ4 s = some (.list (rows.map Row.v)):=by rw [← hσ4, set_ne nf_s.symm, set_eq]
 have D4:Dr σ4 d:=by rw [← hσ4]; exact (D3.new hsn).new ((set_ne nf_s).trans hf)
 have ef4:σ4 f = some (.dict []):=by rw [← hσ4, set_eq]
 refine s_for <| i_range <| xs_cons <| drawX F.draw (g_th (g_th g_here)) D4 (by decide) fun w σ5 w0 w1 D5 x5 => ?_
 obtain ⟨nw, rfl, hw⟩:=of_nat (n:=3) w0 w1
 have lw:nw ≤ 1000:=Nat.le_trans (Nat.le_of_lt hw) (by decide)
 refine xs_nil <| r_nat (Nat.le_trans lw (by decide)) ?_
 refine for_range (fun j ρ σ' => Dr σ' d ∧ σ' s = some (.list (rows.map Row.v)) ∧ LaterI σ' f rows j ∧ ρ.get "row" = some (.ref d) ∧ ρ.get "steps" = some (.ref s) ∧ ρ.get "later_on" = some (.ref f)) ?_ ?_ ?_
 ·exact ⟨D5, x5 _ _ ns_d es4, ⟨[], x5 _ _ nf_d ef4, Nat.le_refl _, fun e he => (nomatch he)⟩, g_th (g_th g_here), g_th g_here, g_here⟩
 ·rintro j ρ' σ' K' hj ⟨D, es, L, i1, i2, i3⟩ q1 q2 q3
  exact later_turn F.draw (g_th i1) (g_th i2) (g_th i3) ns_d nf_d nf_s.symm nf_d.symm D es hl L (Nat.le_trans (Nat.le_of_lt hj) lw) fun σ6 ρ6 D6 es6 L6 m6 => q2 _ _ ⟨D6, es6, L6, (m6 _ (by decide)).trans (g_th i1), (m6 _ (by decide)).trans (g_th i2), (m6 _ (by decide)).trans (g_th i3)⟩
 ·rintro ρ' σ6 ⟨D, es, L, i1, i2, i3⟩
  refine s_assign <| x_bin <| x_bin <| x_lcomp <| i_range <| xs_cons <| x_lit <| xs_nil <| r_nat (n:=4) (by decide) ⟨by decide, ?_⟩
  refine ahead_comp F.draw i1 _ [] σ6 D fun zs σ7 hz hzl D7 x7 => ?_
  have zl:zs.length = 4:=hzl
  intro a1 ha1
  have ha1:σ7 a1 = none:=ha1
  refine x_list <| xs_cons <| x_lit <| xs_cons <| x_bin <| x_lit <| x_bin <| x_lit <| drawX F.draw i1 (D7.new ha1) (by decide) fun u σ8 u0 u1 D8 x8 => n_mul (.inl (by decide)) <| n_add <| xs_cons <| x_lit <| xs_nil fun a2 ha2 => ?_
  have e1:σ8 a1 = some (.list (zs.map V.int)):=x8 _ _ (dne D7 ha1) set_eq
  have lst3:([.int 1000, .int (1000 + 2 * u), .int 12]:List V) = ([1000, 1000 + 2 * u, 12]:List Int).map V.int:=rfl
  rw [lst3]
  have es8:σ8 s = some (.list (rows.map Row.v)):=x8 _ _ ns_d (at_new (x7 _ _ ns_d es) ha1)
  have L8:LaterI σ8 f rows nw:=by
   obtain ⟨e, q1, q2⟩:=L
   exact ⟨e, x8 _ _ nf_d (at_new (x7 _ _ nf_d q1) ha1), q2⟩
  refine list_add (at_new e1 ha2) set_eq (by rw [zl]; exact (by decide:4 + 3 ≤ 1000)) fun a3 ha3 => x_bin <| x_list <| xs_cons <| x_lit <| xs_nil fun a4 ha4 => x_lit ⟨.int 0, set_eq, by decide, by decide, fun a5 ha5 => ?_⟩
  have rep:List.replicate (9:Int).toNat (V.int 0) = (List.replicate 9 (0:Int)).map V.int:=rfl
  rw [rep]
  refine list_add (xs:=zs ++ [1000, 1000 + 2 * u, 12]) (at_new (at_new set_eq ha4) ha5) set_eq (by rw [List.length_append, zl]; exact (by decide:4 + 3 + 9 ≤ 1000)) fun a6 ha6 => ?_
  have h16:((zs ++ [1000, 1000 + 2 * u, 12]) ++ List.replicate 9 0).length = 16:=by rw [List.length_append, List.length_append, zl]; rfl
  have x6:=((((Ext.new (o:=.list (([1000, 1000 + 2 * u, 12]:List Int).map V.int)) ha2).trans (Ext.new ha3)).trans (Ext.new ha4)).trans (Ext.new ha5)).trans (Ext.new (o:=.list (((zs ++ [1000, 1000 + 2 * u, 12]) ++ List.replicate 9 0).map V.int)) ha6)
  refine law_tail F (s:=s) (f:=f) (a:=a6) (rows:=rows) (rg:=fun i => ((zs ++ [1000, 1000 + 2 * u, 12]) ++ List.replicate 9 0).getD i.toNat 0) (n:=nw) (g_th i2) (g_th i3) g_here (x6 _ _ es8) hl hok ?_ lw (by rw [rgV_list h16]; exact set_eq) ?_
  ·obtain ⟨e, q1, q2⟩:=L8
   exact ⟨e, x6 _ _ q1, q2⟩
  ·intro r r0 r1
   obtain ⟨j, rfl, lt⟩:=of_nat (n:=16) r0 r1
   have lt:j < ((zs ++ [1000, 1000 + 2 * u, 12]) ++ List.replicate 9 (0:Int)).length:=by rw [h16]; exact lt
   have mem:((zs ++ [1000, 1000 + 2 * u, 12]) ++ List.replicate 9 0).getD (j:Int).toNat 0 ∈ ((zs ++ [1000, 1000 + 2 * u, 12]) ++ List.replicate 9 (0:Int)):=by
    rw [Int.toNat_natCast, List.getD_eq_getElem?_getD, List.getElem?_eq_getElem lt]; exact List.getElem_mem lt
   have bd:∀ y ∈ (zs ++ [1000, 1000 + 2 * u, 12]) ++ List.replicate 9 (0:Int), Rg y:=fun y hy => by
    rcases List.mem_append.mp hy with hy | hy
    ·rcases List.mem_append.mp hy with hy | hy
     ·have:=hz y hy; exact ⟨this.1, Int.lt_trans this.2 (by decide)⟩
     rcases List.mem_cons.mp hy with rfl | hy
     ·exact ⟨by decide, by decide⟩
     rcases List.mem_cons.mp hy with rfl | hy
     ·exact ⟨by omega, by omega⟩
     ·rw [List.mem_singleton.mp hy]; exact ⟨by decide, by decide⟩
    ·rw [(List.mem_replicate.mp hy).2]; exact ⟨by decide, by decide⟩
   exact bd _ mem
end
end Mini
end
section
open PySem PySem.W PyProof.Rows Mini
set_option maxRecDepth 100000
namespace Mini
noncomputable def geOf (gs:List (Str × V)) (fs ms:List (Str × Spec)):GE:=⟨fun x => aget gs x, fun x => aget fs x, fun x => aget ms x⟩
section
variable {c:Cfg} {n m:Nat}
noncomputable def GlobS (c:Cfg) (x:Str) (v:V):Prop:=∃ val, c.mg x = some val ∧ ∀ h, VR h v val
noncomputable def FnS (c:Cfg) (n:Nat) (f:Str) (sp:Spec):Prop:=∃ a, c.mg f = some (.ref a) ∧ keepIn c.K (.ref a) = true ∧ Sound c n (.ref a) sp
noncomputable def MeS (c:Cfg) (n:Nat) (f:Str) (sp:Spec):Prop:=∃ a, findIn c.K (.ref c.C) f = some (some (.ref a)) ∧ isFn c.K (.ref a) = true ∧ keepIn c.K (.ref a) = true ∧ Sound c n (.ref a) sp
theorem FnS.up {f:Str} {sp:Spec} (h:FnS c n f sp) (l:n ≤ m):FnS c m f sp:=let ⟨a, h1, h2, h3⟩:=h; ⟨a, h1, h2, h3.up l⟩
theorem MeS.up {f:Str} {sp:Spec} (h:MeS c n f sp) (l:n ≤ m):MeS c m f sp:=let ⟨a, h1, h2, h3, h4⟩:=h; ⟨a, h1, h2, h3, h4.up l⟩
theorem all_nil {α:Type} {p:Str → α → Prop}:∀ e ∈ ([]:List (Str × α)), p e.1 e.2:=fun e he => nomatch he
theorem all_cons {α:Type} {p:Str → α → Prop} {x:Str} {a:α} {l:List (Str × α)} (h:p x a) (r:∀ e ∈ l, p e.1 e.2):∀ e ∈ ((x, a) :: l), p e.1 e.2:=fun e he => by
 rcases List.mem_cons.mp he with rfl | he
 ·exact h
 ·exact r e he
theorem aget_mem {α:Type} {l:List (Str × α)} {x:Str} {v:α} (h:aget l x = some v):(x, v) ∈ l:=by
 unfold aget at h
 obtain ⟨e, he, rfl⟩:=Option.map_eq_some_iff.mp h
 have:=List.find?_some he
 rw [← of_decide_eq_true this]
 exact List.mem_of_find?_eq_some he
theorem ge_ok {gs:List (Str × V)} {fs ms:List (Str × Spec)} (hg:∀ e ∈ gs, GlobS c e.1 e.2) (hf:∀ e ∈ fs, FnS c n e.1 e.2) (hm:∀ e ∈ ms, MeS c n e.1 e.2):GOk c n (geOf gs fs ms) :=
 ⟨fun x v h => hg _ (aget_mem h), fun f sp h => hf _ (aget_mem h), fun f sp h => hm _ (aget_mem h)⟩
theorem vrs3 {h:Heap} {a b d:V} {vals:List Value} (r:VRs h [a, b, d] vals):∃ x y z, vals = [x, y, z] ∧ VR h a x ∧ VR h b y ∧ VR h d z:=by
 obtain ⟨x, _, rfl, h1, r⟩:=r.cons'
 obtain ⟨y, z, rfl, h2, h3⟩:=r.two'
 exact ⟨x, y, z, rfl, h1, h2, h3⟩
theorem vrs4 {h:Heap} {a b d e:V} {vals:List Value} (r:VRs h [a, b, d, e] vals):∃ x y z t, vals = [x, y, z, t] ∧ VR h a x ∧ VR h b y ∧ VR h d z ∧ VR h e t:=by
 obtain ⟨x, _, rfl, h1, r⟩:=r.cons'
 obtain ⟨y, z, t, rfl, h2, h3, h4⟩:=vrs3 r
 exact ⟨x, y, z, t, rfl, h1, h2, h3, h4⟩
theorem isFn_type {K:Frag} {a:Addr} (h:isFn K (.ref a) = true):typeIn K (.ref a) = some (.type "function"):=by
 unfold isFn at h
 first | exact of_decide_eq_true h | exact eq_of_beq h | simpa using h
end
theorem g0_MASK (P:Params):∃ t, nsIn (HH P) mainGlobals "MASK" = some (some (.int 4294967295 t)):=⟨_, rfl⟩
theorem g0_SIGN (P:Params):∃ t, nsIn (HH P) mainGlobals "SIGN" = some (some (.int 2147483648 t)):=⟨_, rfl⟩
theorem g0_WORD (P:Params):∃ t, nsIn (HH P) mainGlobals "WORD" = some (some (.int 4294967296 t)):=⟨_, rfl⟩
theorem g0_HALF (P:Params):∃ t, nsIn (HH P) mainGlobals "HALF" = some (some (.int 2147483648 t)):=⟨_, rfl⟩
theorem g0_HIGH (P:Params):∃ t, nsIn (HH P) mainGlobals "HIGH" = some (some (.int 16 t)):=⟨_, rfl⟩
theorem g0_FLAGS (P:Params):∃ t, nsIn (HH P) mainGlobals "FLAGS" = some (some (.int 17 t)):=⟨_, rfl⟩
theorem g_MASK {w:World} {h:Heap} {mg mb:Str → Option Value} (KX:(HH w.params).In h) (N:h.Ns mainGlobals mg):GlobS (cfgOf w h mg mb) "MASK" (.int 4294967295):=let ⟨_, e⟩:=g0_MASK w.params; ⟨_, mg_of KX N e, fun _ => ⟨_, rfl⟩⟩
theorem g_SIGN {w:World} {h:Heap} {mg mb:Str → Option Value} (KX:(HH w.params).In h) (N:h.Ns mainGlobals mg):GlobS (cfgOf w h mg mb) "SIGN" (.int 2147483648):=let ⟨_, e⟩:=g0_SIGN w.params; ⟨_, mg_of KX N e, fun _ => ⟨_, rfl⟩⟩
theorem g_WORD {w:World} {h:Heap} {mg mb:Str → Option Value} (KX:(HH w.params).In h) (N:h.Ns mainGlobals mg):GlobS (cfgOf w h mg mb) "WORD" (.int 4294967296):=let ⟨_, e⟩:=g0_WORD w.params; ⟨_, mg_of KX N e, fun _ => ⟨_, rfl⟩⟩
theorem g_HALF {w:World} {h:Heap} {mg mb:Str → Option Value} (KX:(HH w.params).In h) (N:h.Ns mainGlobals mg):GlobS (cfgOf w h mg mb) "HALF" (.int 2147483648):=let ⟨_, e⟩:=g0_HALF w.params; ⟨_, mg_of KX N e, fun _ => ⟨_, rfl⟩⟩
theorem g_HIGH {w:World} {h:Heap} {mg mb:Str → Option Value} (KX:(HH w.params).In h) (N:h.Ns mainGlobals mg):GlobS (cfgOf w h mg mb) "HIGH" (.int 16):=let ⟨_, e⟩:=g0_HIGH w.params; ⟨_, mg_of KX N e, fun _ => ⟨_, rfl⟩⟩
theorem g_FLAGS {w:World} {h:Heap} {mg mb:Str → Option Value} (KX:(HH w.params).In h) (N:h.Ns mainGlobals mg):GlobS (cfgOf w h mg mb) "FLAGS" (.int 17):=let ⟨_, e⟩:=g0_FLAGS w.params; ⟨_, mg_of KX N e, fun _ => ⟨_, rfl⟩⟩
section
variable {w:World} {h:Heap} {mg mb:Str → Option Value} (KX:(HH w.params).In h) (N:h.Ns mainGlobals mg) (W:CfgOk (cfgOf w h mg mb))
include KX N W
theorem s_f_flagged:FnS (cfgOf w h mg mb) 1 "flagged" sp_flagged:=by
 obtain ⟨a, oc, od, fd, osl, body, h1, h2, h3, h4, h5, h6, h7, h8, h9, h10, b3, b4⟩:=f_flagged w.params
 refine ⟨a, mg_of KX N h1, h10, ?_⟩
 have G0:GOk (cfgOf w h mg mb) 0 (geOf [] [] []):=ge_ok all_nil all_nil all_nil
 intro A s σ vs vals Q R hA k rv hs P
 obtain ⟨r, c, v, hv, hq⟩:=hs
 rcases hv with rfl | ⟨u, rfl⟩
 ·obtain ⟨x, y, z, rfl, e1, e2, e3⟩:=vrs3 rv
  exact fn_run W G0 h2 h3 h4 h5 h6 h7 h8 h9 hA k (b3 s (k.kin W) x y z) (us:=[.int r, c, v, .none]) ⟨_, _, rfl, e1, _, _, rfl, e2, _, _, rfl, e3, _, _, rfl, rfl, rfl⟩ (ok_flagged (vs:=[]) hq) P
 ·obtain ⟨x, y, z, t, rfl, e1, e2, e3, e4⟩:=vrs4 rv
  exact fn_run W G0 h2 h3 h4 h5 h6 h7 h8 h9 hA k (b4 s (k.kin W) x y z t) (us:=[.int r, c, v, u]) ⟨_, _, rfl, e1, _, _, rfl, e2, _, _, rfl, e3, _, _, rfl, e4, rfl⟩ (ok_flagged (vs:=[]) hq) P
theorem s_f_Values:FnS (cfgOf w h mg mb) 2 "Values" sp_Values:=by
 obtain ⟨c1, c2, c3, c4, c5, c6, c7, c8⟩:=cls_facts w.params
 obtain ⟨a, e1, e2, fa⟩:=f_V___init__ w.params
 refine ⟨235, mg_of KX N c8, c7, ?_⟩
 have G0:GOk (cfgOf w h mg mb) 0 (geOf [] [] []):=ge_ok all_nil all_nil all_nil
 have S0:Sound (cfgOf w h mg mb) 1 (.ref a) sp_init:=(sound_of W G0 fa).weaken fun vs σ Q q => ok_init q
 exact (new_run W c1 e1 (isFn_type e2) S0).weaken fun vs σ Q q => values_of_init q
theorem s_f_to_signed:FnS (cfgOf w h mg mb) 1 "to_signed" sp_to_signed:=by
 have G0:GOk (cfgOf w h mg mb) 0 (geOf [("SIGN", .int 2147483648)] [] []):=ge_ok (all_cons (g_SIGN KX N) (all_nil)) (all_nil) (all_nil)
 obtain ⟨a, e1, fa⟩:=f_to_signed w.params
 exact ⟨a, mg_of KX N e1, fa.keep, (sound_of W G0 fa).weaken fun vs σ Q q => ok_to_signed (by rfl) q⟩
theorem s_f_add:FnS (cfgOf w h mg mb) 2 "add" (sp_alu aAdd):=by
 have G0:GOk (cfgOf w h mg mb) 1 (geOf [("MASK", .int 4294967295)] [("flagged", sp_flagged)] []):=ge_ok (all_cons (g_MASK KX N) (all_nil)) (all_cons ((s_f_flagged KX N W).up (by decide)) (all_nil)) (all_nil)
 obtain ⟨a, e1, fa⟩:=f_add w.params
 exact ⟨a, mg_of KX N e1, fa.keep, (sound_of W G0 fa).weaken fun vs σ Q q => ok_add (by rfl) (by rfl) q⟩
theorem s_f_sub:FnS (cfgOf w h mg mb) 2 "sub" (sp_alu aSub):=by
 have G0:GOk (cfgOf w h mg mb) 1 (geOf [("MASK", .int 4294967295)] [("flagged", sp_flagged)] []):=ge_ok (all_cons (g_MASK KX N) (all_nil)) (all_cons ((s_f_flagged KX N W).up (by decide)) (all_nil)) (all_nil)
 obtain ⟨a, e1, fa⟩:=f_sub w.params
 exact ⟨a, mg_of KX N e1, fa.keep, (sound_of W G0 fa).weaken fun vs σ Q q => ok_sub (by rfl) (by rfl) q⟩
theorem s_f_mul:FnS (cfgOf w h mg mb) 2 "mul" (sp_alu aMul):=by
 have G0:GOk (cfgOf w h mg mb) 1 (geOf [("MASK", .int 4294967295)] [("flagged", sp_flagged), ("to_signed", sp_to_signed)] []):=ge_ok (all_cons (g_MASK KX N) (all_nil)) (all_cons ((s_f_flagged KX N W).up (by decide)) (all_cons ((s_f_to_signed KX N W).up (by decide)) (all_nil))) (all_nil)
 obtain ⟨a, e1, fa⟩:=f_mul w.params
 exact ⟨a, mg_of KX N e1, fa.keep, (sound_of W G0 fa).weaken fun vs σ Q q => ok_mul (by rfl) (by rfl) (by rfl) q⟩
theorem s_f_shift_left:FnS (cfgOf w h mg mb) 2 "shift_left" (sp_alu aLsl):=by
 have G0:GOk (cfgOf w h mg mb) 1 (geOf [("MASK", .int 4294967295)] [("flagged", sp_flagged)] []):=ge_ok (all_cons (g_MASK KX N) (all_nil)) (all_cons ((s_f_flagged KX N W).up (by decide)) (all_nil)) (all_nil)
 obtain ⟨a, e1, fa⟩:=f_shift_left w.params
 exact ⟨a, mg_of KX N e1, fa.keep, (sound_of W G0 fa).weaken fun vs σ Q q => ok_shift_left (by rfl) (by rfl) q⟩
theorem s_f_bitwise:FnS (cfgOf w h mg mb) 2 "bitwise" sp_bitwise:=by
 have G0:GOk (cfgOf w h mg mb) 1 (geOf [] [("flagged", sp_flagged)] []):=ge_ok (all_nil) (all_cons ((s_f_flagged KX N W).up (by decide)) (all_nil)) (all_nil)
 obtain ⟨a, e1, fa⟩:=f_bitwise w.params
 exact ⟨a, mg_of KX N e1, fa.keep, (sound_of W G0 fa).weaken fun vs σ Q q => ok_bitwise (by rfl) q⟩
theorem s_f_operate:FnS (cfgOf w h mg mb) 3 "operate" sp_operate:=by
 have G0:GOk (cfgOf w h mg mb) 2 (geOf [] [("add", (sp_alu aAdd)), ("sub", (sp_alu aSub)), ("mul", (sp_alu aMul)), ("shift_left", (sp_alu aLsl)), ("bitwise", sp_bitwise)] []):=ge_ok (all_nil) (all_cons ((s_f_add KX N W).up (by decide)) (all_cons ((s_f_sub KX N W).up (by decide)) (all_cons ((s_f_mul KX N W).up (by decide)) (all_cons ((s_f_shift_left KX N W).up (by decide)) (all_cons ((s_f_bitwise KX N W).up (by decide)) (all_nil)))))) (all_nil)
 obtain ⟨a, e1, fa⟩:=f_operate w.params
 exact ⟨a, mg_of KX N e1, fa.keep, (sound_of W G0 fa).weaken fun vs σ Q q => ok_operate (by rfl) (by rfl) (by rfl) (by rfl) (by rfl) q⟩
theorem s_f_calculations:FnS (cfgOf w h mg mb) 1 "calculations" sp_calculations:=by
 have G0:GOk (cfgOf w h mg mb) 0 (geOf [] [] []):=ge_ok (all_nil) (all_nil) (all_nil)
 obtain ⟨a, e1, fa⟩:=f_calculations w.params
 exact ⟨a, mg_of KX N e1, fa.keep, (sound_of W G0 fa).weaken fun vs σ Q q => ok_calculations q⟩
theorem s_f_is_memory:FnS (cfgOf w h mg mb) 1 "is_memory" (sp_row fun r => .bool r.mem):=by
 have G0:GOk (cfgOf w h mg mb) 0 (geOf [] [] []):=ge_ok (all_nil) (all_nil) (all_nil)
 obtain ⟨a, e1, fa⟩:=f_is_memory w.params
 exact ⟨a, mg_of KX N e1, fa.keep, (sound_of W G0 fa).weaken fun vs σ Q q => ok_is_memory q⟩
theorem s_f_is_load:FnS (cfgOf w h mg mb) 1 "is_load" (sp_row fun r => .bool r.load):=by
 have G0:GOk (cfgOf w h mg mb) 0 (geOf [] [] []):=ge_ok (all_nil) (all_nil) (all_nil)
 obtain ⟨a, e1, fa⟩:=f_is_load w.params
 exact ⟨a, mg_of KX N e1, fa.keep, (sound_of W G0 fa).weaken fun vs σ Q q => ok_is_load q⟩
theorem s_f_is_store:FnS (cfgOf w h mg mb) 1 "is_store" (sp_row fun r => .bool r.store):=by
 have G0:GOk (cfgOf w h mg mb) 0 (geOf [] [] []):=ge_ok (all_nil) (all_nil) (all_nil)
 obtain ⟨a, e1, fa⟩:=f_is_store w.params
 exact ⟨a, mg_of KX N e1, fa.keep, (sound_of W G0 fa).weaken fun vs σ Q q => ok_is_store q⟩
theorem s_f_is_control:FnS (cfgOf w h mg mb) 1 "is_control" (sp_row fun r => .bool r.ctl):=by
 have G0:GOk (cfgOf w h mg mb) 0 (geOf [] [] []):=ge_ok (all_nil) (all_nil) (all_nil)
 obtain ⟨a, e1, fa⟩:=f_is_control w.params
 exact ⟨a, mg_of KX N e1, fa.keep, (sound_of W G0 fa).weaken fun vs σ Q q => ok_is_control q⟩
theorem s_f_base_name:FnS (cfgOf w h mg mb) 2 "base_name" (sp_row fun r => .str r.base):=by
 have G0:GOk (cfgOf w h mg mb) 1 (geOf [] [("calculations", sp_calculations)] []):=ge_ok (all_nil) (all_cons ((s_f_calculations KX N W).up (by decide)) (all_nil)) (all_nil)
 obtain ⟨a, e1, fa⟩:=f_base_name w.params
 exact ⟨a, mg_of KX N e1, fa.keep, (sound_of W G0 fa).weaken fun vs σ Q q => ok_base_name (by rfl) q⟩
theorem s_f_bytes_of:FnS (cfgOf w h mg mb) 1 "bytes_of" (sp_row (fun r => .int (bytesN r))):=by
 have G0:GOk (cfgOf w h mg mb) 0 (geOf [] [] []):=ge_ok (all_nil) (all_nil) (all_nil)
 obtain ⟨a, e1, fa⟩:=f_bytes_of w.params
 exact ⟨a, mg_of KX N e1, fa.keep, (sound_of W G0 fa).weaken fun vs σ Q q => ok_bytes_of q⟩
theorem s_f_apart:FnS (cfgOf w h mg mb) 2 "apart" sp_apart:=by
 have G0:GOk (cfgOf w h mg mb) 1 (geOf [] [("bytes_of", (sp_row (fun r => .int (bytesN r))))] []):=ge_ok (all_nil) (all_cons ((s_f_bytes_of KX N W).up (by decide)) (all_nil)) (all_nil)
 obtain ⟨a, e1, fa⟩:=f_apart w.params
 exact ⟨a, mg_of KX N e1, fa.keep, (sound_of W G0 fa).weaken fun vs σ Q q => ok_apart (by rfl) q⟩
theorem s_f_as_immediate:FnS (cfgOf w h mg mb) 1 "as_immediate" sp_as_immediate:=by
 have G0:GOk (cfgOf w h mg mb) 0 (geOf [("WORD", .int 4294967296), ("HALF", .int 2147483648)] [] []):=ge_ok (all_cons (g_WORD KX N) (all_cons (g_HALF KX N) (all_nil))) (all_nil) (all_nil)
 obtain ⟨a, e1, fa⟩:=f_as_immediate w.params
 exact ⟨a, mg_of KX N e1, fa.keep, (sound_of W G0 fa).weaken fun vs σ Q q => ok_as_immediate (by rfl) (by rfl) q⟩
theorem s_f_is_even_handed:FnS (cfgOf w h mg mb) 1 "is_even_handed" (sp_str (fun s => .bool (evenH s))):=by
 have G0:GOk (cfgOf w h mg mb) 0 (geOf [] [] []):=ge_ok (all_nil) (all_nil) (all_nil)
 obtain ⟨a, e1, fa⟩:=f_is_even_handed w.params
 exact ⟨a, mg_of KX N e1, fa.keep, (sound_of W G0 fa).weaken fun vs σ Q q => ok_is_even_handed q⟩
theorem s_f_keeps_move_flags:FnS (cfgOf w h mg mb) 1 "keeps_move_flags" (sp_str (fun s => .bool (keepsM s))):=by
 have G0:GOk (cfgOf w h mg mb) 0 (geOf [] [] []):=ge_ok (all_nil) (all_nil) (all_nil)
 obtain ⟨a, e1, fa⟩:=f_keeps_move_flags w.params
 exact ⟨a, mg_of KX N e1, fa.keep, (sound_of W G0 fa).weaken fun vs σ Q q => ok_keeps_move_flags q⟩
theorem s_f_may_meet:FnS (cfgOf w h mg mb) 3 "may_meet" sp_may_meet:=by
 have G0:GOk (cfgOf w h mg mb) 2 (geOf [] [("apart", sp_apart)] []):=ge_ok (all_nil) (all_cons ((s_f_apart KX N W).up (by decide)) (all_nil)) (all_nil)
 obtain ⟨a, e1, fa⟩:=f_may_meet w.params
 exact ⟨a, mg_of KX N e1, fa.keep, (sound_of W G0 fa).weaken fun vs σ Q q => ok_may_meet (by rfl) q⟩
theorem s_f_write_set:FnS (cfgOf w h mg mb) 3 "write_set" sp_write_set:=by
 have G0:GOk (cfgOf w h mg mb) 2 (geOf [("FLAGS", .int 17), ("HIGH", .int 16)] [("is_store", (sp_row fun r => .bool r.store)), ("is_load", (sp_row fun r => .bool r.load)), ("base_name", (sp_row fun r => .str r.base))] []):=ge_ok (all_cons (g_FLAGS KX N) (all_cons (g_HIGH KX N) (all_nil))) (all_cons ((s_f_is_store KX N W).up (by decide)) (all_cons ((s_f_is_load KX N W).up (by decide)) (all_cons ((s_f_base_name KX N W).up (by decide)) (all_nil)))) (all_nil)
 obtain ⟨a, e1, fa⟩:=f_write_set w.params
 exact ⟨a, mg_of KX N e1, fa.keep, (sound_of W G0 fa).weaken fun vs σ Q q => ok_write_set (by rfl) (by rfl) (by rfl) (by rfl) (by rfl) q⟩
theorem s_m_fresh:MeS (cfgOf w h mg mb) 1 "fresh" sp_fresh:=by
 have G0:GOk (cfgOf w h mg mb) 0 (geOf [] [] []):=ge_ok (all_nil) (all_nil) (all_nil)
 obtain ⟨a, e1, e2, fa⟩:=f_V_fresh w.params
 exact ⟨a, e1, e2, fa.keep, (sound_of W G0 fa).weaken fun vs σ Q q => ok_fresh q⟩
theorem s_m_of:MeS (cfgOf w h mg mb) 2 "of" sp_of:=by
 have G0:GOk (cfgOf w h mg mb) 1 (geOf [] [] [("fresh", sp_fresh)]):=ge_ok (all_nil) (all_nil) (all_cons ((s_m_fresh KX N W).up (by decide)) (all_nil))
 obtain ⟨a, e1, e2, fa⟩:=f_V_of w.params
 exact ⟨a, e1, e2, fa.keep, (sound_of W G0 fa).weaken fun vs σ Q q => ok_of (by rfl) q⟩
theorem s_m_const:MeS (cfgOf w h mg mb) 2 "const" sp_const:=by
 have G0:GOk (cfgOf w h mg mb) 1 (geOf [] [] [("fresh", sp_fresh)]):=ge_ok (all_nil) (all_nil) (all_cons ((s_m_fresh KX N W).up (by decide)) (all_nil))
 obtain ⟨a, e1, e2, fa⟩:=f_V_const w.params
 exact ⟨a, e1, e2, fa.keep, (sound_of W G0 fa).weaken fun vs σ Q q => ok_const (by rfl) q⟩
theorem s_m_holder:MeS (cfgOf w h mg mb) 1 "holder" sp_holder:=by
 have G0:GOk (cfgOf w h mg mb) 0 (geOf [] [] []):=ge_ok (all_nil) (all_nil) (all_nil)
 obtain ⟨a, e1, e2, fa⟩:=f_V_holder w.params
 exact ⟨a, e1, e2, fa.keep, (sound_of W G0 fa).weaken fun vs σ Q q => ok_holder q⟩
theorem s_m_calculated:MeS (cfgOf w h mg mb) 4 "calculated" sp_calculated:=by
 have G0:GOk (cfgOf w h mg mb) 3 (geOf [] [("is_even_handed", (sp_str (fun s => .bool (evenH s)))), ("operate", sp_operate)] [("fresh", sp_fresh), ("const", sp_const)]):=ge_ok (all_nil) (all_cons ((s_f_is_even_handed KX N W).up (by decide)) (all_cons ((s_f_operate KX N W).up (by decide)) (all_nil))) (all_cons ((s_m_fresh KX N W).up (by decide)) (all_cons ((s_m_const KX N W).up (by decide)) (all_nil)))
 obtain ⟨a, e1, e2, fa⟩:=f_V_calculated w.params
 exact ⟨a, e1, e2, fa.keep, (sound_of W G0 fa).weaken fun vs σ Q q => ok_calculated (by rfl) (by rfl) (by rfl) (by rfl) q⟩
theorem s_m_forget_words:MeS (cfgOf w h mg mb) 3 "forget_words" sp_forget:=by
 have G0:GOk (cfgOf w h mg mb) 2 (geOf [] [("apart", sp_apart)] []):=ge_ok (all_nil) (all_cons ((s_f_apart KX N W).up (by decide)) (all_nil)) (all_nil)
 obtain ⟨a, e1, e2, fa⟩:=f_V_forget_words w.params
 exact ⟨a, e1, e2, fa.keep, (sound_of W G0 fa).weaken fun vs σ Q q => ok_forget (by rfl) q⟩
theorem s_f_result_number:FnS (cfgOf w h mg mb) 5 "result_number" sp_result:=by
 have G0:GOk (cfgOf w h mg mb) 4 (geOf [("WORD", .int 4294967296)] [("base_name", (sp_row fun r => .str r.base))] [("fresh", sp_fresh), ("of", sp_of), ("const", sp_const), ("calculated", sp_calculated)]):=ge_ok (all_cons (g_WORD KX N) (all_nil)) (all_cons ((s_f_base_name KX N W).up (by decide)) (all_nil)) (all_cons ((s_m_fresh KX N W).up (by decide)) (all_cons ((s_m_of KX N W).up (by decide)) (all_cons ((s_m_const KX N W).up (by decide)) (all_cons ((s_m_calculated KX N W).up (by decide)) (all_nil)))))
 obtain ⟨a, e1, fa⟩:=f_result_number w.params
 exact ⟨a, mg_of KX N e1, fa.keep, (sound_of W G0 fa).weaken fun vs σ Q q => ok_result (by rfl) (by rfl) (by rfl) (by rfl) (by rfl) (by rfl) q⟩
theorem s_f_fixed_row:FnS (cfgOf w h mg mb) 2 "fixed_row" sp_fixed:=by
 have G0:GOk (cfgOf w h mg mb) 1 (geOf [] [("is_store", (sp_row fun r => .bool r.store)), ("is_control", (sp_row fun r => .bool r.ctl))] [("fresh", sp_fresh)]):=ge_ok (all_nil) (all_cons ((s_f_is_store KX N W).up (by decide)) (all_cons ((s_f_is_control KX N W).up (by decide)) (all_nil))) (all_cons ((s_m_fresh KX N W).up (by decide)) (all_nil))
 obtain ⟨a, e1, fa⟩:=f_fixed_row w.params
 exact ⟨a, mg_of KX N e1, fa.keep, (sound_of W G0 fa).weaken fun vs σ Q q => ok_fixed (by rfl) (by rfl) (by rfl) q⟩
theorem s_f_with_immediate:FnS (cfgOf w h mg mb) 3 "with_immediate" sp_imm:=by
 have G0:GOk (cfgOf w h mg mb) 2 (geOf [] [("as_immediate", sp_as_immediate), ("base_name", (sp_row fun r => .str r.base))] [("of", sp_of)]):=ge_ok (all_nil) (all_cons ((s_f_as_immediate KX N W).up (by decide)) (all_cons ((s_f_base_name KX N W).up (by decide)) (all_nil))) (all_cons ((s_m_of KX N W).up (by decide)) (all_nil))
 obtain ⟨a, e1, fa⟩:=f_with_immediate w.params
 exact ⟨a, mg_of KX N e1, fa.keep, (sound_of W G0 fa).weaken fun vs σ Q q => ok_imm (by rfl) (by rfl) (by rfl) q⟩
theorem s_f_better_row:FnS (cfgOf w h mg mb) 4 "better_row" sp_better:=by
 have G0:GOk (cfgOf w h mg mb) 3 (geOf [] [("with_immediate", sp_imm), ("as_immediate", sp_as_immediate), ("base_name", (sp_row fun r => .str r.base)), ("keeps_move_flags", (sp_str (fun s => .bool (keepsM s))))] [("holder", sp_holder)]):=ge_ok (all_nil) (all_cons ((s_f_with_immediate KX N W).up (by decide)) (all_cons ((s_f_as_immediate KX N W).up (by decide)) (all_cons ((s_f_base_name KX N W).up (by decide)) (all_cons ((s_f_keeps_move_flags KX N W).up (by decide)) (all_nil))))) (all_cons ((s_m_holder KX N W).up (by decide)) (all_nil))
 obtain ⟨a, e1, fa⟩:=f_better_row w.params
 exact ⟨a, mg_of KX N e1, fa.keep, (sound_of W G0 fa).weaken fun vs σ Q q => ok_better (by rfl) (by rfl) (by rfl) (by rfl) (by rfl) q⟩
theorem s_f_load_row:FnS (cfgOf w h mg mb) 3 "load_row" sp_load:=by
 have G0:GOk (cfgOf w h mg mb) 2 (geOf [] [] [("of", sp_of), ("fresh", sp_fresh), ("holder", sp_holder)]):=ge_ok (all_nil) (all_nil) (all_cons ((s_m_of KX N W).up (by decide)) (all_cons ((s_m_fresh KX N W).up (by decide)) (all_cons ((s_m_holder KX N W).up (by decide)) (all_nil))))
 obtain ⟨a, e1, fa⟩:=f_load_row w.params
 exact ⟨a, mg_of KX N e1, fa.keep, (sound_of W G0 fa).weaken fun vs σ Q q => ok_load (by rfl) (by rfl) (by rfl) q⟩
theorem s_f_store_row:FnS (cfgOf w h mg mb) 4 "store_row" sp_store:=by
 have G0:GOk (cfgOf w h mg mb) 3 (geOf [] [] [("of", sp_of), ("forget_words", sp_forget)]):=ge_ok (all_nil) (all_nil) (all_cons ((s_m_of KX N W).up (by decide)) (all_cons ((s_m_forget_words KX N W).up (by decide)) (all_nil)))
 obtain ⟨a, e1, fa⟩:=f_store_row w.params
 exact ⟨a, mg_of KX N e1, fa.keep, (sound_of W G0 fa).weaken fun vs σ Q q => ok_store (by rfl) (by rfl) q⟩
theorem s_f_dead_flags:FnS (cfgOf w h mg mb) 4 "dead_flags" sp_dead:=by
 have G0:GOk (cfgOf w h mg mb) 3 (geOf [("FLAGS", .int 17)] [("is_control", (sp_row fun r => .bool r.ctl)), ("write_set", sp_write_set)] []):=ge_ok (all_cons (g_FLAGS KX N) (all_nil)) (all_cons ((s_f_is_control KX N W).up (by decide)) (all_cons ((s_f_write_set KX N W).up (by decide)) (all_nil))) (all_nil)
 obtain ⟨a, e1, fa⟩:=f_dead_flags w.params
 exact ⟨a, mg_of KX N e1, fa.keep, (sound_of W G0 fa).weaken fun vs σ Q q => ok_dead (by rfl) (by rfl) (by rfl) q⟩
theorem s_f_simplified:FnS (cfgOf w h mg mb) 6 "simplified" sp_simplified:=by
 have G0:GOk (cfgOf w h mg mb) 5 (geOf [] [("is_control", (sp_row fun r => .bool r.ctl)), ("fixed_row", sp_fixed), ("is_load", (sp_row fun r => .bool r.load)), ("is_store", (sp_row fun r => .bool r.store)), ("load_row", sp_load), ("store_row", sp_store), ("result_number", sp_result), ("better_row", sp_better), ("Values", sp_Values), ("dead_flags", sp_dead)] []):=ge_ok (all_nil) (all_cons ((s_f_is_control KX N W).up (by decide)) (all_cons ((s_f_fixed_row KX N W).up (by decide)) (all_cons ((s_f_is_load KX N W).up (by decide)) (all_cons ((s_f_is_store KX N W).up (by decide)) (all_cons ((s_f_load_row KX N W).up (by decide)) (all_cons ((s_f_store_row KX N W).up (by decide)) (all_cons ((s_f_result_number KX N W).up (by decide)) (all_cons ((s_f_better_row KX N W).up (by decide)) (all_cons ((s_f_Values KX N W).up (by decide)) (all_cons ((s_f_dead_flags KX N W).up (by decide)) (all_nil))))))))))) (all_nil)
 obtain ⟨a, e1, fa⟩:=f_simplified w.params
 exact ⟨a, mg_of KX N e1, fa.keep, (sound_of W G0 fa).weaken fun vs σ Q q => ok_simplified ⟨by rfl, by rfl, by rfl, by rfl, by rfl, by rfl, by rfl, by rfl⟩ (by rfl) (by rfl) q⟩
theorem s_f_covered_stores:FnS (cfgOf w h mg mb) 6 "covered_stores" sp_covered:=by
 have G0:GOk (cfgOf w h mg mb) 5 (geOf [] [("is_control", (sp_row fun r => .bool r.ctl)), ("fixed_row", sp_fixed), ("is_load", (sp_row fun r => .bool r.load)), ("is_memory", (sp_row fun r => .bool r.mem)), ("may_meet", sp_may_meet), ("result_number", sp_result), ("Values", sp_Values)] [("of", sp_of), ("fresh", sp_fresh)]):=ge_ok (all_nil) (all_cons ((s_f_is_control KX N W).up (by decide)) (all_cons ((s_f_fixed_row KX N W).up (by decide)) (all_cons ((s_f_is_load KX N W).up (by decide)) (all_cons ((s_f_is_memory KX N W).up (by decide)) (all_cons ((s_f_may_meet KX N W).up (by decide)) (all_cons ((s_f_result_number KX N W).up (by decide)) (all_cons ((s_f_Values KX N W).up (by decide)) (all_nil)))))))) (all_cons ((s_m_of KX N W).up (by decide)) (all_cons ((s_m_fresh KX N W).up (by decide)) (all_nil)))
 obtain ⟨a, e1, fa⟩:=f_covered_stores w.params
 exact ⟨a, mg_of KX N e1, fa.keep, (sound_of W G0 fa).weaken fun vs σ Q q => ok_covered ⟨by rfl, by rfl, by rfl, by rfl, by rfl, by rfl, by rfl, by rfl⟩ (by rfl) q⟩
theorem s_f_number_run:FnS (cfgOf w h mg mb) 7 "number_run" sp_number:=by
 have G0:GOk (cfgOf w h mg mb) 6 (geOf [] [("simplified", sp_simplified), ("covered_stores", sp_covered)] []):=ge_ok (all_nil) (all_cons ((s_f_simplified KX N W).up (by decide)) (all_cons ((s_f_covered_stores KX N W).up (by decide)) (all_nil))) (all_nil)
 obtain ⟨a, e1, fa⟩:=f_number_run w.params
 exact ⟨a, mg_of KX N e1, fa.keep, (sound_of W G0 fa).weaken fun vs σ Q q => ok_number (by rfl) (by rfl) q⟩
theorem s_f__law_figures:FnS (cfgOf w h mg mb) 1 "_law_figures" sp_figures:=by
 have G0:GOk (cfgOf w h mg mb) 0 (geOf [] [] []):=ge_ok (all_nil) (all_nil) (all_nil)
 obtain ⟨a, e1, fa⟩:=f__law_figures w.params
 exact ⟨a, mg_of KX N e1, fa.keep, (sound_of W G0 fa).weaken fun vs σ Q q => ok_figures q⟩
theorem s_f__law_draw:FnS (cfgOf w h mg mb) 1 "_law_draw" sp_draw:=by
 have G0:GOk (cfgOf w h mg mb) 0 (geOf [] [] []):=ge_ok (all_nil) (all_nil) (all_nil)
 obtain ⟨a, e1, fa⟩:=f__law_draw w.params
 exact ⟨a, mg_of KX N e1, fa.keep, (sound_of W G0 fa).weaken fun vs σ Q q => ok_draw q⟩
theorem s_f__law_row_of:FnS (cfgOf w h mg mb) 2 "_law_row_of" sp_row_of:=by
 have G0:GOk (cfgOf w h mg mb) 1 (geOf [] [("_law_draw", sp_draw)] []):=ge_ok (all_nil) (all_cons ((s_f__law_draw KX N W).up (by decide)) (all_nil)) (all_nil)
 obtain ⟨a, e1, fa⟩:=f__law_row_of w.params
 exact ⟨a, mg_of KX N e1, fa.keep, (sound_of W G0 fa).weaken fun vs σ Q q => ok_row_of (by rfl) q⟩
theorem s_f__law_calculated:FnS (cfgOf w h mg mb) 1 "_law_calculated" sp_calc:=by
 have G0:GOk (cfgOf w h mg mb) 0 (geOf [] [] []):=ge_ok (all_nil) (all_nil) (all_nil)
 obtain ⟨a, e1, fa⟩:=f__law_calculated w.params
 exact ⟨a, mg_of KX N e1, fa.keep, (sound_of W G0 fa).weaken fun vs σ Q q => ok_calc q⟩
theorem s_f__law_step:FnS (cfgOf w h mg mb) 2 "_law_step" sp_step:=by
 have G0:GOk (cfgOf w h mg mb) 1 (geOf [] [("_law_calculated", sp_calc)] []):=ge_ok (all_nil) (all_cons ((s_f__law_calculated KX N W).up (by decide)) (all_nil)) (all_nil)
 obtain ⟨a, e1, fa⟩:=f__law_step w.params
 exact ⟨a, mg_of KX N e1, fa.keep, (sound_of W G0 fa).weaken fun vs σ Q q => ok_step (by rfl) q⟩
theorem s_f__law_holds:FnS (cfgOf w h mg mb) 1 "_law_holds" sp_holds:=by
 have G0:GOk (cfgOf w h mg mb) 0 (geOf [] [] []):=ge_ok (all_nil) (all_nil) (all_nil)
 obtain ⟨a, e1, fa⟩:=f__law_holds w.params
 exact ⟨a, mg_of KX N e1, fa.keep, (sound_of W G0 fa).weaken fun vs σ Q q => ok_holds q⟩
theorem s_f__law_tidy:FnS (cfgOf w h mg mb) 1 "_law_tidy" sp_tidy:=by
 have G0:GOk (cfgOf w h mg mb) 0 (geOf [] [] []):=ge_ok (all_nil) (all_nil) (all_nil)
 obtain ⟨a, e1, fa⟩:=f__law_tidy w.params
 exact ⟨a, mg_of KX N e1, fa.keep, (sound_of W G0 fa).weaken fun vs σ Q q => ok_tidy q⟩
theorem s_f__law_end:FnS (cfgOf w h mg mb) 3 "_law_end" sp_end:=by
 have G0:GOk (cfgOf w h mg mb) 2 (geOf [] [("_law_holds", sp_holds), ("_law_tidy", sp_tidy), ("_law_step", sp_step)] []):=ge_ok (all_nil) (all_cons ((s_f__law_holds KX N W).up (by decide)) (all_cons ((s_f__law_tidy KX N W).up (by decide)) (all_cons ((s_f__law_step KX N W).up (by decide)) (all_nil)))) (all_nil)
 obtain ⟨a, e1, fa⟩:=f__law_end w.params
 exact ⟨a, mg_of KX N e1, fa.keep, (sound_of W G0 fa).weaken fun vs σ Q q => ok_end ⟨by rfl, by rfl, by rfl⟩ q⟩
theorem s_f__law_plain_wins:FnS (cfgOf w h mg mb) 8 "_law_plain_wins" sp_wins:=by
 have G0:GOk (cfgOf w h mg mb) 7 (geOf [] [("number_run", sp_number)] []):=ge_ok (all_nil) (all_cons ((s_f_number_run KX N W).up (by decide)) (all_nil)) (all_nil)
 obtain ⟨a, e1, fa⟩:=f__law_plain_wins w.params
 exact ⟨a, mg_of KX N e1, fa.keep, (sound_of W G0 fa).weaken fun vs σ Q q => ok_wins (by rfl) q⟩
theorem law_ge:GOk (cfgOf w h mg mb) 60 (geOf [] [("_law_figures", sp_figures), ("_law_draw", sp_draw), ("_law_row_of", sp_row_of), ("number_run", sp_number), ("_law_end", sp_end), ("_law_plain_wins", sp_wins)] []) :=
 ge_ok (all_nil) (all_cons ((s_f__law_figures KX N W).up (by decide)) (all_cons ((s_f__law_draw KX N W).up (by decide)) (all_cons ((s_f__law_row_of KX N W).up (by decide)) (all_cons ((s_f_number_run KX N W).up (by decide)) (all_cons ((s_f__law_end KX N W).up (by decide)) (all_cons ((s_f__law_plain_wins KX N W).up (by decide)) (all_nil))))))) (all_nil)
end
theorem law_fns:LawFns (geOf [] [("_law_figures", sp_figures), ("_law_draw", sp_draw), ("_law_row_of", sp_row_of), ("number_run", sp_number), ("_law_end", sp_end), ("_law_plain_wins", sp_wins)] []):=⟨by rfl, by rfl, by rfl, by rfl, by rfl, by rfl⟩
theorem all_ok (w:World) (h:Heap) (mg mb:Str → Option Value) (KX:(HH w.params).In h) (N:h.Ns mainGlobals mg) (W:CfgOk (cfgOf w h mg mb)):∃ Γ, GOk (cfgOf w h mg mb) 60 Γ ∧ ∀ l ns, ¬ (63:Int) < ((ns:List Int).length:Int) → wSs Γ b_law (Loc.set [] "script" (.ref l)) (lawStore l ns) fun f _ _ => f = .ret (.bool true) :=
 ⟨_, law_ge KX N W, fun l ns hns => ok_law law_fns hns (by unfold lawStore; rw [if_pos rfl])⟩
end Mini
end
section
open PySem PySem.W PyProof.Rows
namespace Mini
noncomputable def asL:List Addr:=[2, 3, 15, 17, 18, 20, 21, 22, 23, 25, 26, 28, 29, 30, 32, 33, 35, 36, 37, 39, 40, 42, 43, 44, 46, 47, 49, 50, 51, 53, 54, 56, 57, 58, 60, 61, 63, 64, 65, 67, 68, 70, 71, 72, 74, 75, 77, 78, 79, 81, 82, 84, 85, 86, 88, 89, 91, 92, 93, 95, 96, 98, 99, 100, 102, 103, 105, 106, 107, 109, 110, 112, 113, 114, 116, 117, 119, 120, 121, 123, 124, 126, 127, 128, 130, 131, 133, 134, 135, 137, 138, 140, 141, 142, 144, 145, 147, 148, 149, 151, 152, 154, 155, 156, 158, 159, 161, 162, 163, 165, 166, 168, 169, 170, 172, 173, 175, 176, 184, 186, 187, 189, 190, 191, 193, 194, 196, 197, 198, 200, 201, 203, 204, 205, 207, 208, 210, 211, 212, 214, 215, 217, 218, 219, 221, 222, 224, 225, 226, 228, 229, 231, 232, 233, 234, 235, 236, 237, 240, 242, 243, 245, 246, 247, 249, 250, 252, 253, 254, 256, 257, 259, 260, 261, 263, 264, 266, 267, 268, 270, 271, 273, 274, 275, 277, 278, 280, 281, 282, 284, 285, 287, 288, 289, 291, 292, 294, 295, 296, 298, 299, 301, 302, 303, 306, 307, 308, 310, 311, 313, 314, 315, 317, 318, 320, 321, 322, 324, 325, 327, 328, 329, 331, 332, 334, 335, 336, 339, 340, 341, 343, 344, 346, 347, 348, 350, 351, 353, 354, 355, 358, 359, 360, 363, 364, 365, 367, 368, 370, 371, 372, 375, 376]
theorem as_eq:∀ P, asL = (KH.heap_1 P).map (·.1):=fun _ => by kernel_rfl
theorem h1.tw561364283784587518:True:=trivial
theorem h1.tw7083332925046231009:True:=trivial
theorem h1.tw16618433580142436433:True:=trivial
theorem h1.tw11891907091093712333:True:=trivial
theorem h1.tw1041705611548821265:True:=trivial
theorem h1.tw4228527470244779262:True:=trivial
theorem h1.tw13109315985738338461:True:=trivial
theorem h1.tw18442332585349362147:True:=trivial
theorem h1.tw1460636626405423996:True:=trivial
theorem h1.tw13933309159704197923:True:=trivial
theorem h1.tw12126804332833366808:True:=trivial
theorem h1.tw4546523598051503760:True:=trivial
theorem h1.tw9062538150558925211:True:=trivial
theorem h1.tw14157831891711149218:True:=trivial
theorem h1.tw13204734146124875467:True:=trivial
theorem h1.tw12849797609981199793:True:=trivial
theorem h1.tw3080486870182700391:True:=trivial
theorem h1.tw15705477907309081445:True:=trivial
theorem h1.tw5695325665953651400:True:=trivial
theorem h1.tw15042333669217562313:True:=trivial
theorem h1.tw5121285248878673927:True:=trivial
theorem h1.tw11833049543245486620:True:=trivial
theorem h1.tw14911595704734779427:True:=trivial
theorem h1.tw17365003107277360748:True:=trivial
theorem h1.tw5920569714320723373:True:=trivial
theorem h1.tw16651653282276072069:True:=trivial
theorem h1.tw4704348129036413459:True:=trivial
theorem h1.tw2495724356878862890:True:=trivial
theorem h1.tw1259398649907455769:True:=trivial
theorem h1.tw181336049947706878:True:=trivial
theorem h1.tw15764847121369847999:True:=trivial
theorem h1.tw9448172778016754455:True:=trivial
theorem h1.tw3984396207040056252:True:=trivial
theorem h1.tw3886205209744811969:True:=trivial
theorem h1.tw8359781000253655045:True:=trivial
theorem h1.tw4017984998459123353:True:=trivial
theorem h1.tw58368377609567220:True:=trivial
theorem h1.tw17857518273937216289:True:=trivial
theorem h1.tw8081874032431245172:True:=trivial
theorem h1.tw247035601179579803:True:=trivial
theorem h1.tw7394019875334183689:True:=trivial
theorem h1.tw5220140030254007123:True:=trivial
theorem h1.tw2028318621616016291:True:=trivial
theorem h1.tw5851475564586441752:True:=trivial
theorem h1.tw4785683269075640416:True:=trivial
theorem h1.tw17247002833617174339:True:=trivial
theorem h1.tw1754437127103549708:True:=trivial
theorem h1.tw9068193092952839613:True:=trivial
theorem h1.tw14224940710590693473:True:=trivial
theorem h1.tw17621478931298672432:True:=trivial
theorem h1.tw4665772464578579480:True:=trivial
theorem h1.tw12099936455901973206:True:=trivial
theorem h1.tw9568354654712055565:True:=trivial
theorem h1.tw16714549057885869615:True:=trivial
theorem h1.tw17765164991549770886:True:=trivial
theorem h1.tw5212246801528266329:True:=trivial
theorem h1.tw14944431063428759332:True:=trivial
theorem h1.tw6691467166317266103:True:=trivial
theorem h1.tw15871475069999564898:True:=trivial
theorem h1.tw14503396955094168985:True:=trivial
theorem h1.tw8678571294314513623:True:=trivial
theorem h1.tw13197114285943869960:True:=trivial
theorem h1.tw11413064905214077642:True:=trivial
theorem h1.tw2146774548397345364:True:=trivial
theorem h1.tw17356306446407463117:True:=trivial
theorem h1.tw17570113644535961508:True:=trivial
theorem h1.tw11842556134255888943:True:=trivial
theorem h1.tw15898102585102347474:True:=trivial
theorem h1.tw7922557699352833003:True:=trivial
theorem h1.tw8903473080410911048:True:=trivial
theorem h1.tw13696567254006843342:True:=trivial
theorem h1.tw13919690010790955266:True:=trivial
theorem h1.tw14368865479241030322:True:=trivial
theorem h1.tw16312188526711334924:True:=trivial
theorem h1.tw5534193416402911229:True:=trivial
theorem h1.tw5594713221159480737:True:=trivial
theorem h1.tw11634381508752415547:True:=trivial
theorem h1.tw10457276688881074393:True:=trivial
theorem h1.tw17397021194544883224:True:=trivial
theorem h1.tw1134873251274100172:True:=trivial
theorem h1.tw4679162761373006155:True:=trivial
theorem h1.tw9873924470747823222:True:=trivial
theorem h1.tw10895266808581266373:True:=trivial
theorem h1.tw1480623480164361760:True:=trivial
theorem h1.tw10658722336442721395:True:=trivial
theorem h1.tw6584425377878238836:True:=trivial
theorem h1.tw5633947451890669224:True:=trivial
theorem h1.tw4777787560358398102:True:=trivial
theorem h1.tw13504967063870306635:True:=trivial
theorem h1.tw1797879501475982867:True:=trivial
theorem h1.tw17879691540036167826:True:=trivial
theorem h1.tw14043201600013544698:True:=trivial
theorem h1.tw14773600169246597822:True:=trivial
theorem h1.tw9707342709977814606:True:=trivial
theorem h1.tw3237419964368206657:True:=trivial
theorem h1.tw55623854300827631:True:=trivial
theorem h1.tw17156084727610984895:True:=trivial
theorem h1.tw8483403099403327811:True:=trivial
theorem h1.tw846092183453030935:True:=trivial
theorem h1.tw7309802324978330196:True:=trivial
theorem h1.tw17027878555780336878:True:=trivial
theorem h1.tw6236283062481003180:True:=trivial
theorem h1.tw10298834371709528070:True:=trivial
theorem h1.tw4523225484984430349:True:=trivial
theorem h1.tw4193367644889904537:True:=trivial
theorem h1.tw562585718920822997:True:=trivial
theorem h1.tw3339607635319326559:True:=trivial
theorem h1.tw13933222697376432790:True:=trivial
theorem h1.tw4493510180645910156:True:=trivial
theorem h1.tw49112127671443160:True:=trivial
theorem h1.tw9063446194689554998:True:=trivial
theorem h1.tw16298299699900706928:True:=trivial
theorem h1.tw5266777423647817954:True:=trivial
theorem h1.tw10545569379190694448:True:=trivial
theorem h1.tw3915166738899485903:True:=trivial
theorem h1.tw9042250661558014743:True:=trivial
theorem h1.tw13046695897022339077:True:=trivial
theorem h1.tw13244570041791603605:True:=trivial
theorem h1.tw10024988818586776949:True:=trivial
theorem h1.tw17677904042374391269:True:=trivial
theorem h1.tw16482328080699266307:True:=trivial
theorem h1.tw999521233167769127:True:=trivial
theorem h1.tw15005896812209879106:True:=trivial
theorem h1.tw367227238659866943:True:=trivial
theorem h1.tw16019425241421506342:True:=trivial
theorem h1.tw1685472098705656579:True:=trivial
theorem h1.tw2096892028467347534:True:=trivial
theorem h1.tw15336025365691639798:True:=trivial
theorem h1.tw7075603263020978434:True:=trivial
theorem h1.tw11278429318744068081:True:=trivial
theorem h1.tw17501759320647891487:True:=trivial
theorem h1.tw13730169094823096811:True:=trivial
theorem h1.tw3843566698200235887:True:=trivial
theorem h1.tw1817511336777705390:True:=trivial
theorem h1.tw1216929937176943626:True:=trivial
theorem h1.tw4998996522987787210:True:=trivial
theorem h1.tw14561228840141353000:True:=trivial
theorem h1.tw16562209031123109115:True:=trivial
theorem h1.tw13927436166941585063:True:=trivial
theorem h1.tw12551687250038146476:True:=trivial
theorem h1.tw17724062503573511590:True:=trivial
theorem h1.tw10669152904826398186:True:=trivial
theorem h1.tw10382006464207075295:True:=trivial
theorem h1.tw9371379904826305155:True:=trivial
theorem h1.tw18143915504562634263:True:=trivial
theorem h1.tw7976672277733294562:True:=trivial
theorem h1.tw10369957320977710312:True:=trivial
theorem h1.tw11894150260180844491:True:=trivial
theorem h1.tw18262396271967635501:True:=trivial
theorem h1.tw15404319385212105893:True:=trivial
theorem h1.tw13656009622569705302:True:=trivial
theorem h1.tw13110707382239645854:True:=trivial
theorem h1.tw12898861293351597383:True:=trivial
theorem h1.tw3241968891606630382:True:=trivial
theorem h1.tw1137640743257419469:True:=trivial
theorem h1.tw12848293530246593309:True:=trivial
theorem h1.tw948166583336407401:True:=trivial
theorem h1.tw13033552826767012719:True:=trivial
theorem h1.tw16248822789608669691:True:=trivial
theorem h1.tw17687304626711561356:True:=trivial
theorem h1.tw2827321318171018073:True:=trivial
theorem h1.tw18293694334804513231:True:=trivial
theorem h1.tw654383157948843309:True:=trivial
theorem h1.tw5734819416656642480:True:=trivial
theorem h1.tw2883494831967319874:True:=trivial
theorem h1.tw14260423788829468285:True:=trivial
theorem h1.tw16993066940971437880:True:=trivial
theorem h1.tw17084538857107646432:True:=trivial
theorem h1.tw14451782352132177991:True:=trivial
theorem h1.tw14089146647102792382:True:=trivial
theorem h1.tw4734775951240639639:True:=trivial
theorem h1.tw13526119998008578435:True:=trivial
theorem h1.tw4558813352744498916:True:=trivial
theorem h1.tw11586549214696427777:True:=trivial
theorem h1.tw2958799248940660149:True:=trivial
theorem h1.tw9256773457388962459:True:=trivial
theorem h1.tw8888494081754525904:True:=trivial
theorem h1.tw16677902858852536294:True:=trivial
theorem h1.tw4104603595058591428:True:=trivial
theorem h1.tw10152466461034252479:True:=trivial
theorem h1.tw14006979359717208259:True:=trivial
theorem h1.tw15914758823581149325:True:=trivial
theorem h1.tw9800176292181450964:True:=trivial
theorem h1.tw11463664390920924061:True:=trivial
theorem h1.tw11667251939846218173:True:=trivial
theorem h1.tw18212191896068903322:True:=trivial
theorem h1.tw2355095605197620988:True:=trivial
theorem h1.tw13075859113154173144:True:=trivial
theorem h1.tw9091481677035597713:True:=trivial
theorem h1.tw18279414486929543387:True:=trivial
theorem h1.tw18252199162892001915:True:=trivial
theorem h1.tw18440658641690138736:True:=trivial
theorem h1.tw2110861210091822407:True:=trivial
theorem h1.tw8602391420921501682:True:=trivial
theorem h1.tw17390709013355966469:True:=trivial
theorem h1.tw16396250620311440595:True:=trivial
theorem h1.tw3959146940557289929:True:=trivial
theorem h1.tw11783198461174165917:True:=trivial
theorem h1.tw3646832619501348741:True:=trivial
theorem h1.tw2889799748557505525:True:=trivial
theorem h1.tw15612499478999510659:True:=trivial
theorem h1.tw14298790313482259518:True:=trivial
theorem h1.tw16511927642619692020:True:=trivial
theorem h1.tw17582726377235062618:True:=trivial
theorem h1.tw337841651513041554:True:=trivial
theorem h1.tw3362987676563211625:True:=trivial
theorem h1.tw17274989115289789554:True:=trivial
theorem h1.tw453481397066395493:True:=trivial
theorem h1.tw11178919699174383580:True:=trivial
theorem h1.tw7147130217118699047:True:=trivial
theorem h1.tw7167102921545759159:True:=trivial
theorem h1.tw14009607599270469805:True:=trivial
theorem h1.tw7057095619516225695:True:=trivial
theorem h1.tw8643015197917350863:True:=trivial
theorem h1.tw14591674381089281978:True:=trivial
theorem h1.tw5978745401973026815:True:=trivial
theorem h1.tw12222863014306567098:True:=trivial
theorem h1.tw11532221462033392356:True:=trivial
theorem h1.tw1322988869301606804:True:=trivial
theorem h1.tw11254840388238238190:True:=trivial
theorem h1.tw3413578161630812105:True:=trivial
theorem h1.tw5012591957951489298:True:=trivial
theorem h1.tw8889409291576381311:True:=trivial
theorem h1.tw11658408960177534479:True:=trivial
theorem h1.tw11369898025652497546:True:=trivial
theorem h1.tw12197814342173266865:True:=trivial
theorem h1.tw18125895911323481826:True:=trivial
theorem h1.tw16964907159037112041:True:=trivial
theorem h1.tw6974333205976215852:True:=trivial
theorem h1.tw13719879179031044039:True:=trivial
theorem h1.tw13800454868305334019:True:=trivial
theorem h1.tw7923715087757635787:True:=trivial
theorem h1.tw9908057931367963381:True:=trivial
theorem h1.tw16483742633714839921:True:=trivial
theorem h1.tw3710510123713007051:True:=trivial
theorem h1.tw9097988462964782236:True:=trivial
theorem h1.tw2856249060293141931:True:=trivial
theorem h1.tw15811606242526896124:True:=trivial
theorem h1.tw9621921126469789131:True:=trivial
theorem h1.tw12623529480124431329:True:=trivial
theorem h1.tw2255665494304254014:True:=trivial
theorem h1.tw15261193101058526104:True:=trivial
theorem h1.tw3467105115323408592:True:=trivial
theorem h1.tw7232300897915557452:True:=trivial
theorem h1.tw17343455219468332473:True:=trivial
theorem h1.tw17213975277170612778:True:=trivial
theorem h1.tw894426336864665436:True:=trivial
theorem h1.tw4356579430791251662:True:=trivial
theorem h1.tw6384830451356797223:True:=trivial
theorem h1.tw13869930213886381265:True:=trivial
theorem h1.tw3888401424229631887:True:=trivial
theorem h1.tw18337585330237183142:True:=trivial
theorem h1.tw3485307870119978890:True:=trivial
theorem h1.tw11703509985067323680:True:=trivial
theorem h1.tw13269317187917442569:True:=trivial
theorem h1.tw18147790213010927903:True:=trivial
theorem h1.tw18214854010824694570:True:=trivial
theorem h1.tw6771516003555764543:True:=trivial
theorem h1.tw14367572427197254008:True:=trivial
theorem h1.tw11060701805978052228:True:=trivial
theorem h1.tw1377445867907275033:True:=trivial
theorem h1.tw16005964533111271355:True:=trivial
theorem h1.tw16407417776612262484:True:=trivial
theorem h1.tw14795102638020912116:True:=trivial
theorem h1.tw18259325663620154390:True:=trivial
theorem h1.tw17686968619761610209:True:=trivial
theorem h1.tw10921897608917726243:True:=trivial
theorem h1.tw7716313203462390400:True:=trivial
theorem h1.tw15457105546939906552:True:=trivial
theorem h1.tw6784040353201519607:True:=trivial
theorem h1.tw15737745885668178811:True:=trivial
theorem h1.tw17387577709479401680:True:=trivial
theorem h1.tw14180361709437371329:True:=trivial
theorem h1.tw17767625892499574249:True:=trivial
theorem h1.tw1268370035637392392:True:=trivial
theorem h1.tw17400556233507986260:True:=trivial
theorem h1.tw2908615584728747740:True:=trivial
theorem h1.tw10031860027577659887:True:=trivial
theorem h1.tw11880670196322218112:True:=trivial
theorem h1.tw2892161290390080961:True:=trivial
theorem h1.tw16406027222245338944:True:=trivial
theorem h1.tw18159589164646330580:True:=trivial
theorem h1.tw14472544989253502766:True:=trivial
theorem h1.tw1513430890315031025:True:=trivial
theorem h1.tw12276916559119262087:True:=trivial
theorem h1.tw11724026201038722620:True:=trivial
theorem h1.tw1330842548631882405:True:=trivial
theorem h1.tw1355006540653921164:True:=trivial
theorem h1.tw4421284481752784068:True:=trivial
theorem h1.tw9535766396792648657:True:=trivial
theorem h1.tw366613943070495109:True:=trivial
theorem h1.tw6761734049404060441:True:=trivial
theorem h1.tw10690728831811538046:True:=trivial
theorem h1.tw2153917498151373793:True:=trivial
theorem h1.tw16488662843826590960:True:=trivial
theorem h1.tw13355289646752312310:True:=trivial
theorem h1.tw790844663263341745:True:=trivial
theorem h1.tw14342135334170195888:True:=trivial
theorem h1.tw10202729285624919179:True:=trivial
theorem h1.tw11353304541966766652:True:=trivial
theorem h1.tw15083485163766234752:True:=trivial
theorem h1.tw4772075518953366349:True:=trivial
theorem h1.tw16648063216034050207:True:=trivial
theorem h1.tw5720657306271605695:True:=trivial
theorem h1.tw18436461582247909128:True:=trivial
theorem h1.tw11977405984237380894:True:=trivial
theorem h1.tw185411340933295149:True:=trivial
theorem h1.tw368457752480929128:True:=trivial
theorem h1.tw3509942156049573446:True:=trivial
theorem h1.tw10287390856395123954:True:=trivial
theorem h1.tw2737618735385634441:True:=trivial
theorem h1.tw14974238026081970298:True:=trivial
theorem h1.tw1505211468139632586:True:=trivial
theorem h1.tw12101530047872925760:True:=trivial
theorem h1.tw4468050265771897249:True:=trivial
theorem h1.tw4136566026841980849:True:=trivial
theorem h1.tw10717224837737182641:True:=trivial
theorem h1.tw17678827080031364704:True:=trivial
theorem h1.tw2013371654593121226:True:=trivial
theorem h1.tw1355368588210879532:True:=trivial
theorem h1.tw5933863093069517808:True:=trivial
theorem h1.tw7670111221591993410:True:=trivial
theorem h1.tw16723655277015519527:True:=trivial
theorem h1.tw3441409445235694899:True:=trivial
theorem h1.tw7120275851622231876:True:=trivial
theorem h1.tw5293336589652236879:True:=trivial
theorem h1.tw12595448395517200490:True:=trivial
theorem h1.tw5199780615305890944:True:=trivial
theorem h1.tw16477510822613858990:True:=trivial
theorem h1.tw6870342568217813192:True:=trivial
theorem h1.tw116330247808623787:True:=trivial
theorem h1.tw1436643954511233719:True:=trivial
theorem h1.tw1023669722873423106:True:=trivial
theorem h1.tw724243569443905431:True:=trivial
theorem h1.tw18278309666670888959:True:=trivial
theorem h1.tw10523757765858497676:True:=trivial
section
local macro_rules | `(tactic| o_law) => `(tactic| refine holds_law (by kernel_rfl) fun said => ?_)
set_option Elab.async true
set_option maxRecDepth 100000 in
set_option maxHeartbeats 0 in
theorem h1:PySem.Challenge.rw_pb0350_01.Holds:=by
 w_on
 o_law
 o_head (kHook KH.heap_1 asL as_eq)
 (case hw => w_witness2)
 k_go0
 have KX:=‹(HH _).In _›
 have T:=‹Top _ _ _ _ _ _›
 have hL:=‹Heap.IsList _ _ _›
 have hI:=‹IntsAre _ _›
 have F:=‹Fr _ _ _ _›
 have N0:=‹News _ _ _ _›
 have hg:=‹_ = #[]›
 have W:=cfg_ok KX T
 obtain ⟨Γ, G, hw⟩:=all_ok _ _ _ _ KX T.g W
 refine law_join (cn:="row") (pn:="script") W G (by decide) rfl hL hI (by rfl) rfl (fun m => rfl) (only_of (by decide +kernel)) rfl F N0 (by assumption) (hw _ _ (by assumption)) ?_
 intro h' tk' kp
 refine ⟨.inl ⟨.bool true, .bool true, [], rfl, ?_, ?_, ?_, ?_⟩, kp, rfl, ?_⟩
 ·intro cls; rfl
 ·first | exact ReadsW.bool _ | exact .bool | constructor | skip
 ·exact postW_of rfl rfl (by first | decide +kernel | simp [PySem.W.same] | w_fin)
 ·exact fun _ => ⟨List.nodup_nil, fun _ h => nomatch h⟩
 ·exact hg
end
end Mini
end
open PySem PySem.W PyProof.Rows
theorem PySem.Challenge.cw_pb0350_01_holds : PySem.Challenge.rw_pb0350_01.Holds := by
 exact Mini.h1
