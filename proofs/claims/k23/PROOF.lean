import PyProof.Rows.All
import Wide.All
import OpenK.AllK
import Wide.FinOn
import HandS.ForMost
import HandS.ForExc
import HandS.Flow
import HandS.Head0
import HandS.Head1
import HandS.Head2
import HandS.HeadEnd
import HandS.HeadHook1
import HandS.HeadHook2
import HandS.HeadNt
import HandS.Property
import HandS.IsInst
import HandS.Wide
import HandS.Strs
import HandS.SortInts
import HandS.Defaults
import HandS.Conv
import HandS.TupAny
import HandS.Zip
import HandS.NoneIn
import HandS.Lambda
import HandS.DictComp
import KE.KDictKeyed
import KE.KOpsOwn
import HandS.SlotsOwn
import KE.GoesEnum
import HandS.Star
import HandS.Iter
import HandS.ExcInit
import HandS.ExcValue
import HandS.ExcField
import HandS.ExcIs
import KE.KExcIs
import PyProof.ReprRoads
import PyProof.CallFns
import HandS.ClsMeth
import HandS.EndTab
import HandS.HeadHook4
import PySem.Challenge.RW_stillstruck_k23_keys_made
import HandS.TupMul
import HandS.NamedTupSort
import PyProof.Rows.IntBool
import HandS.Deep
import PyProof.Rows.CountFlat
import HandS.SetFor
import PyProof.Rows.SortShellAny
import HandS.ExcOwn
import HandS.MakeKw
import PyProof.ReprLen
import PyProof.P3Eq
import HandS.Text
set_option Elab.async false
set_option linter.all false
set_option maxRecDepth 100000
set_option maxHeartbeats 4000000
set_option autoImplicit false
/-! the hook of a law's head: facts as a list of truths, defs as data; no more of the layer (the run of a top is to stand first in a joined text) -/
namespace DL
open PySem PySem.Spec PyProof.Rows L2
def tbOf (tr fa : List Str) : Str → Option Bool := fun t => if t ∈ tr then some true else if t ∈ fa then some false else none
def tb_kit_ty_int (cs : List Str) := tbOf ["int", "bool"] ((["NoneType", "str", "list", "tuple", "dict"] : List Str) ++ cs)
def tb_kit_ty_bool (cs : List Str) := tbOf ["bool"] ((["NoneType", "int", "str", "list", "tuple", "dict"] : List Str) ++ cs)
def tb_kit_two_list_tuple (cs : List Str) := tbOf ["list", "tuple"] ((["NoneType", "bool", "int", "str", "dict"] : List Str) ++ cs)
def tb_kit_ty_str (cs : List Str) := tbOf ["str"] ((["NoneType", "bool", "int", "list", "tuple", "dict"] : List Str) ++ cs)
def tb_kit_ty_list (cs : List Str) := tbOf ["list"] ((["NoneType", "bool", "int", "str", "tuple", "dict"] : List Str) ++ cs)
section
variable {K : PySem.W.Frag}
def insB (K : PySem.W.Frag) (x : Str) : Bool := (He.Fa.cls x).ok K && (He.eqO (PySem.W.findIn K (.ref (He.ga K x)) "__class__") (some (some (.builtin "object.__class__"))) && (He.eqO (PySem.W.specialIn K (.builtin "object.__class__") "__get__") (some (some (.builtin "getset_descriptor.__get__"))) && (decide (PySem.W.takesIn K (.builtin "object.__class__") = some true) && decide (PySem.W.mroIn K (He.ga K x) (.type "object") = some true))))
def kitB (K : PySem.W.Frag) (cs : List Str) (an : Value → Option Bool) (tb : Str → Option Bool) : Bool := ((["NoneType", "bool", "int", "str", "list", "tuple", "dict"] : List String).all fun t => match tb (Str.ofString t) with
    | some b => decide (an (.type t) = some b)
    | none => true) && (cs.all fun c => match tb c with
    | some b => decide (an (.ref (He.ga K c)) = some b)
    | none => true)
def obsB (fb : PySem.W.Frag → List Bool) (fn : List He5.DefA) (K : PySem.W.Frag) : He.AlD := ((fb K).all id && fn.all fun d => d.ok K, fn.map fun d => He5.fnA K (d.at_ K))
def SaysB (fb : PySem.W.Frag → List Bool) (fn : List He5.DefA) (K : PySem.W.Frag) : Prop := obsB fb fn K = He5.valA fn
/-- a def of the top, of no default -/
def defA (a : PySem.W.Frag → Addr) (x qual : Str) (st : Stmt) : He5.DefA := ⟨a, x, qual, defArgs st, defBody st, defScope st, [], []⟩
def exmB (K : PySem.W.Frag) (t : Str) (xs : List Str) : Bool := xs.all fun c => decide (PySem.W.exmOne K (.ref (He.ga K c)) (.ref (He.ga K t)) = some true)
def xcB (K : PySem.W.Frag) (x : Str) : Bool := He.eqO (PySem.W.findIn K (.ref (He.ga K x)) "__getattribute__") (some (some (.builtin "BaseException.__getattribute__"))) && (He.eqO (PySem.W.findIn K (.ref (He.ga K x)) "__getattr__") (some none) && (decide (PySem.W.subIn K (.ref (He.ga K x)) (.type "BaseException") = some true) && (PySem.W.hasDictIn K (He.ga K x) &&
  (He.eqO (PySem.W.findIn K (.ref (He.ga K x)) "__class__") (some (some (.builtin "object.__class__"))) && (He.eqO (PySem.W.specialIn K (.builtin "object.__class__") "__get__") (some (some (.builtin "getset_descriptor.__get__"))) && (decide (PySem.W.takesIn K (.builtin "object.__class__") = some true) && decide (PySem.W.mroIn K (He.ga K x) (.type "object") = some true)))))))
def kxB (K : PySem.W.Frag) (an : Value → Option Bool) (tr fa : List Str) : Bool := (tr.all fun c => decide (an (.ref (He.ga K c)) = some true)) && fa.all fun c => decide (an (.ref (He.ga K c)) = some false)
def xfB (K : PySem.W.Frag) (f : Str) (cs : List Str) : Bool := cs.all fun c => xcB K c && He.eqO (PySem.W.findIn K (.ref (He.ga K c)) f) (some none)
end
end DL
set_option Elab.async false
set_option linter.all false
set_option maxRecDepth 100000
set_option maxHeartbeats 400000
set_option autoImplicit false
/-! the hook of a law's head, over objects found level by level, without looking for those found twice -/
namespace DL
open PySem PySem.Spec PyProof.Rows L2
def nextF (g : Addr → Option Obj) (as : List Addr) : List Addr := as.flatMap fun a => match g a with
  | some o => (He.refsD o).filter fun b => !(Nat.beq b mainGlobals)
  | none => []
def lvlF (g : Addr → Option Obj) : Nat → List Addr → List Addr
  | 0, as => as
  | n + 1, as => as ++ lvlF g n (nextF g as)
def asF (g : Addr → Option Obj) (n : Nat) : List Addr := lvlF g n [mainGlobals] ++ [cStatics]
end DL
set_option Elab.async false
set_option linter.all false
set_option maxRecDepth 100000
set_option maxHeartbeats 1000000
set_option autoImplicit false
/-! a hook's fact: a global that is a tuple of texts -/
namespace DL
open PySem PySem.Spec PyProof.Rows L2
def strsB : List Str → List Value → Bool
  | [], [] => true
  | s :: ss, .str x _ :: us => decide (x = s) && strsB ss us
  | _, _ => false
def tupSB (K : PySem.W.Frag) (a : Addr) (ss : List Str) : Bool := match K.lookup a with
  | some ⟨.type t, _, .seq its _, _⟩ => decide (t = "tuple") && (decide (its.size ≤ 1000) && strsB ss its.toList)
  | _ => false
end DL
set_option Elab.async false
set_option linter.all false
set_option maxRecDepth 100000
set_option maxHeartbeats 4000000
set_option autoImplicit false
/-! dicts whose keys are None, ints and tuples of ints, all values True: the model's operations -/
namespace DL
open PySem PySem.Spec PyProof.Rows L2
abbrev NK := NestedKey
/-- a key: None, an int, a tuple of ints -/
inductive KK where
  | non | int (i : Int) | tup (ns : List Int)
  deriving DecidableEq
def nk : KK → NK
  | .non => .none
  | .int i => .num i
  | .tup ns => .tup (ns.map NestedKey.num)
def hshK : KK → Int
  | .non => reduceHash 0xFCA86420
  | .int i => hashInt i
  | .tup ns => reduceHash (Builtin.Tuple.tupleHashOf (ns.map hashInt))
/-- the value is this key -/
def KIs (h : Heap) (k : KK) (v : Value) : Prop := NestedIs h (nk k) v
def entV (x : KK × Value) : DictEntry := ⟨hshK x.1, x.2, .bool true⟩
/-- the dict at d has these keys, in this order -/
def DictV (h : Heap) (d : Addr) (xs : List (KK × Value)) : Prop :=
  ∃ o es ep, h.get? d = some o ∧ o.ExactDict ∧ o.data = .dict es ep ∧ es.toList = xs.map entV ∧ (xs.map (·.1)).Nodup
theorem DictV.new (h : Heap) : DictV (h.push { cls := .type "dict", data := .dict #[] }) h.objs.size [] :=
  ⟨_, #[], 0, Heap.get?_push_size _ rfl, ⟨rfl, rfl, rfl⟩, rfl, rfl, List.nodup_nil⟩
theorem DictV.at {h h' : Heap} {d : Addr} {xs : List (KK × Value)} (x : DictV h d xs) (k : ∀ o, h.get? d = some o → h'.get? d = some o) : DictV h' d xs :=
  let ⟨o, es, ep, ho, r⟩ := x; ⟨o, es, ep, k o ho, r⟩
theorem DictV.typeIs {s : Shared} {d : Addr} {xs : List (KK × Value)} (x : DictV s.heap d xs) : s.TypeIs (.ref d) "dict" := let ⟨o, _, _, ho, hc, _⟩ := x; ⟨o, ho, hc.1⟩
section
variable {prog : Program} {w : World} {A : Around} {E : Value → Shared → Prop} {s : Shared}
theorem KIs.val {h : Heap} {k : KK} {v : Value} (hi : KIs h k v) : v = .none ∨ (∃ b, v = .bool b) ∨ (∃ i t, v = .int i t) ∨ ∃ ns a, k = .tup ns ∧ v = .ref a := by
  cases k with
  | non => cases hi; exact .inl rfl
  | int i =>
    have hi : NestedIs h (.num i) v := hi
    cases hi with
    | bool _ => exact .inr (.inl ⟨_, rfl⟩)
    | int _ _ => exact .inr (.inr (.inl ⟨_, _, rfl⟩))
  | tup ns =>
    have hi : NestedIs h (.tup _) v := hi
    cases hi with
    | tup h1 h2 h3 h4 => exact .inr (.inr (.inr ⟨_, _, rfl, rfl⟩))
end
/-! ### as tracked objects -/
/-- the value v is the key k -/
def KeyIn (K : PySem.W.Frag) (H : Hp) : KK → V → Prop
  | .non, v => v = .non
  | .int i, v => v = .int i
  | .tup ns, v => ∃ b, v = .ref b ∧ SqT K H b (ns.map V.int)
theorem Same.sqT {K : PySem.W.Frag} {G G' : Hp} {a : Addr} {vs : List V} (h : ∀ a o, G a = some o → G' a = some o) (q : SqT K G a vs) : SqT K G' a vs := by
  rcases q with (q | ⟨o, q⟩) | q
  · exact .inl (.inl (h _ _ q))
  · exact .inl (.inr ⟨o, h _ _ q⟩)
  · exact .inr q
theorem KeyIn.mono {K : PySem.W.Frag} {G G' : Hp} (h : ∀ a o, G a = some o → G' a = some o) {k : KK} {v : V} (q : KeyIn K G k v) : KeyIn K G' k v := by
  cases k with
  | non => exact q
  | int i => exact q
  | tup ns => obtain ⟨b, e, q⟩ := q; exact ⟨b, e, Same.sqT h q⟩
/-- the dict with these keys at a, all values True -/
def KSO (a : Addr) (xs : List (KK × V)) : HO := .ext fun h => (a == sysModules) = false ∧ xs.length ≤ sizeLine ∧ ∃ ys, KV xs ys ∧ DictV h a ys
end DL
set_option Elab.async false
set_option linter.all false
set_option maxRecDepth 100000
set_option maxHeartbeats 4000000
set_option autoImplicit false
/-! DL, the data layer: readings over trees of data, above the hand layer. -/
namespace DL
open PySem PySem.Spec PyProof.Rows L2
/-! ### data -/
inductive D where
  | non | bl (b : Bool) | int (i : Int) | str (x : Str)
  | lst (ds : List D) | tup (ds : List D) | dct (kvs : List (Key × D))
  | ins (c : Str) (fs : List (Str × D)) | exc (c : Str) (fs : List (Str × D)) | hnd (n : Nat) | scr (ns : List Int)
  | dks (ks : List KK)
  /-- the i-th lambda of the law; the instance at a; the text that repr gives of d -/
  | fn (i : Nat) | adr (a : Addr) (d : D) | rps (d : D)
/-- a result: a value, an error of the package, or no claim -/
inductive Res (S α : Type) where
  | ok (a : α) (s : S) | err (x : D) (s : S) | stk
def M (S α : Type) := S → Res S α
def Res.bind {S α β : Type} (r : Res S α) (f : α → S → Res S β) : Res S β := match r with
  | .ok a s => f a s
  | .err x s => .err x s
  | .stk => .stk
instance {S : Type} : Monad (M S) where
  pure a := fun s => .ok a s
  bind m f := fun s => (m s).bind fun a s' => f a s'
def stk {S α : Type} : M S α := fun _ => .stk
def throwD {S α : Type} (x : D) : M S α := fun s => .err x s
/-- an error is no claim (within a comprehension) -/
def calmM {S α : Type} (m : M S α) : M S α := fun s => match m s with
  | .err _ _ => .stk
  | r => r
/-- m where p holds, else no claim -/
def grd {S α : Type} (p : Prop) [Decidable p] (m : M S α) : M S α := if p then m else stk
theorem grd_pos {S α : Type} {p : Prop} [Decidable p] {m : M S α} (h : p) : grd p m = m := if_pos h
@[simp] theorem pure_run {S α : Type} (a : α) (s : S) : (pure a : M S α) s = .ok a s := rfl
@[simp] theorem bind_run {S α β : Type} (m : M S α) (f : α → M S β) (s : S) : (m >>= f) s = (m s).bind fun a s' => f a s' := rfl
@[simp] theorem Res.bind_ok {S α β : Type} (a : α) (s : S) (f : α → S → Res S β) : (Res.ok a s).bind f = f a s := rfl
@[simp] theorem Res.bind_err {S α β : Type} (x : D) (s : S) (f : α → S → Res S β) : (Res.err x s).bind f = .err x s := rfl
@[simp] theorem Res.bind_stk {S α β : Type} (f : α → S → Res S β) : (Res.stk : Res S α).bind f = .stk := rfl
@[simp] theorem stk_run {S α : Type} (s : S) : (stk : M S α) s = .stk := rfl
/-! ### slots of a frame -/
inductive Slot where
  | val (d : D) | own (ds : List D) | obj (c : Str) (fs : List (Str × D))
abbrev Env := List (Option Slot)
def isOwn : Option (Option Slot) → Prop
  | some (some (.own _)) => True
  | some (some (.obj _ _)) => True
  | _ => False
inductive Flw where
  | nx (e : Env) | rt (d : D) | bk (e : Env) | ct (e : Env)
/-! ### what stands for data -/
/-- an object that none of the rules here writes: of another module's making (but no dict of keys), or a table of code objects -/
def Fixd : HO → Prop
  | .ext φ => ∀ a xs, HO.ext φ ≠ KSO a xs
  | .tbl _ => True
  | _ => False
/-- no table of code objects -/
abbrev NoTbl (o : HO) : Prop := ∀ ps, o ≠ .tbl ps
/-- what is fixed through a law: the written part, the classes by name, the draws' value, the world that may change -/
structure Cc (S : Type) where
  K : PySem.W.Frag
  cad : Str → Addr
  hnd : Nat → V
  rep : S → Hp → Prop
  reg : Addr → Prop
  frame : ∀ s H H', (∀ a o, H a = some o → reg a ∨ Fixd o → H' a = some o) → rep s H → rep s H'
  there : ∀ s H a, rep s H → reg a → ∃ o, H a = some o
  fno : Nat → Addr → Addr → HO := fun _ _ _ => .tbl #[]
  fnq : Str := ""
  rtx : D → Option Str := fun _ => none
/-- an exception object at a: its class at C, its dict -/
def exv (a C : Addr) (d : Option Addr) : HO := .ext fun h => ∃ (oe : Obj) (vs : Array Value), h.get? a = some oe ∧ Zc (.ref C) d oe ∧ oe.data = .fields vs
theorem exv_ok {P : Program} {w : World} {H : Hp} {h : Heap} {a C : Addr} {d : Option Addr} {oe : Obj} {vs : Array Value} (e : h.get? a = some oe) (z : Zc (.ref C) d oe) (q : oe.data = .fields vs) : ObjOk P w H h a (exv a C d) :=
  ⟨⟨oe, vs, e, z, q⟩, ⟨oe, e⟩, fun _ _ ⟨o, v, q, r⟩ k => ⟨o, v, k o q, r⟩⟩
theorem exv_at {P : Program} {w : World} {H : Hp} {h : Heap} {a C : Addr} {d : Option Addr} (hok : HOk P w H h) (e : H a = some (exv a C d)) : ∃ (oe : Obj) (vs : Array Value), h.get? a = some oe ∧ Zc (.ref C) d oe ∧ oe.data = .fields vs := by
  have x : ObjOk P w H h a (.ext fun h => ∃ (oe : Obj) (vs : Array Value), h.get? a = some oe ∧ Zc (.ref C) d oe ∧ oe.data = .fields vs) := hok a _ e
  exact x.1
variable {S : Type}
mutual
def Rep (C : Cc S) (G : Hp) : D → V → Prop
  | .non, v => v = .non
  | .bl b, v => v = .bl b
  | .int i, v => v = .int i
  | .str x, v => v = .str x
  | .lst ds, v => ∃ a vs, v = .ref a ∧ G a = some (.lst vs) ∧ vs.length ≤ sizeLine ∧ RepL C G ds vs
  | .tup ds, v => ∃ a vs, v = .ref a ∧ SqT C.K G a vs ∧ vs.length ≤ sizeLine ∧ RepL C G ds vs
  | .dct kvs, v => ∃ a vs, v = .ref a ∧ G a = some (.dK vs) ∧ RepK C G kvs vs
  | .ins c fs, v => ∃ a dx vs, v = .ref a ∧ G a = some (.ins (C.cad c) dx vs) ∧ G dx = some (.own a) ∧ RepF C G fs vs
  | .exc c fs, v => ∃ a dd, v = .ref a ∧ G a = some (exv a (C.cad c) dd) ∧ ((fs = [] ∧ dd = none) ∨ ∃ d vs, dd = some d ∧ G d = some (.xd vs) ∧ RepF C G fs vs)
  | .hnd n, v => v = C.hnd n
  | .scr ns, v => ∃ a, v = .ref a ∧ SqL C.K G a (ns.map V.int)
  | .dks ks, v => ∃ a xs, v = .ref a ∧ G a = some (KSO a xs) ∧ xs.map (·.1) = ks ∧ ∀ p ∈ xs, KeyIn C.K G p.1 p.2
  | .fn i, v => ∃ a c, v = .ref a ∧ G a = some (C.fno i a c) ∧ G c = some (LamX.CodeO c C.fnq)
  | .adr a d, v => v = .ref a ∧ Rep C G d v
  | .rps d, v => ∃ x, v = .str x ∧ C.rtx d = some x
def RepL (C : Cc S) (G : Hp) : List D → List V → Prop
  | [], vs => vs = []
  | d :: ds, vs => ∃ v r, vs = v :: r ∧ Rep C G d v ∧ RepL C G ds r
def RepK (C : Cc S) (G : Hp) : List (Key × D) → List (Key × V) → Prop
  | [], vs => vs = []
  | (k, d) :: ds, vs => ∃ v r, vs = (k, v) :: r ∧ Rep C G d v ∧ RepK C G ds r
def RepF (C : Cc S) (G : Hp) : List (Str × D) → List (Str × V) → Prop
  | [], vs => vs = []
  | (k, d) :: ds, vs => ∃ v r, vs = (k, v) :: r ∧ Rep C G d v ∧ RepF C G ds r
end
mutual
theorem Rep.mono {C : Cc S} {G G' : Hp} (h : Same G G') : ∀ {d : D} {v : V}, Rep C G d v → Rep C G' d v
  | .non, _, r => r
  | .bl _, _, r => r
  | .int _, _, r => r
  | .str _, _, r => r
  | .lst _, _, ⟨a, vs, e, q, z, r⟩ => ⟨a, vs, e, h _ _ q, z, RepL.mono h r⟩
  | .tup _, _, ⟨a, vs, e, q, z, r⟩ => ⟨a, vs, e, by
      rcases q with (q | ⟨o, q⟩) | q
      · exact .inl (.inl (h _ _ q))
      · exact .inl (.inr ⟨o, h _ _ q⟩)
      · exact .inr q, z, RepL.mono h r⟩
  | .dct _, _, ⟨a, vs, e, q, r⟩ => ⟨a, vs, e, h _ _ q, RepK.mono h r⟩
  | .ins _ _, _, ⟨a, dx, vs, e, q, q', r⟩ => ⟨a, dx, vs, e, h _ _ q, h _ _ q', RepF.mono h r⟩
  | .exc _ _, _, ⟨a, dd, e, q, .inl r⟩ => ⟨a, dd, e, h _ _ q, .inl r⟩
  | .exc _ _, _, ⟨a, dd, e, q, .inr ⟨d, vs, ed, qd, r⟩⟩ => ⟨a, dd, e, h _ _ q, .inr ⟨d, vs, ed, h _ _ qd, RepF.mono h r⟩⟩
  | .hnd _, _, r => r
  | .scr _, _, ⟨a, e, q⟩ => ⟨a, e, h.seq q⟩
  | .dks _, _, ⟨a, xs, e, q, ek, r⟩ => ⟨a, xs, e, h _ _ q, ek, fun p hp => (r p hp).mono h⟩
  | .fn _, _, ⟨a, c, e, q, q'⟩ => ⟨a, c, e, h _ _ q, h _ _ q'⟩
  | .adr _ _, _, ⟨e, r⟩ => ⟨e, Rep.mono h r⟩
  | .rps _, _, r => r
theorem RepL.mono {C : Cc S} {G G' : Hp} (h : Same G G') : ∀ {ds : List D} {vs : List V}, RepL C G ds vs → RepL C G' ds vs
  | [], _, r => r
  | _ :: _, _, ⟨v, r, e, a, b⟩ => ⟨v, r, e, Rep.mono h a, RepL.mono h b⟩
theorem RepK.mono {C : Cc S} {G G' : Hp} (h : Same G G') : ∀ {ds : List (Key × D)} {vs : List (Key × V)}, RepK C G ds vs → RepK C G' ds vs
  | [], _, r => r
  | (_, _) :: _, _, ⟨v, r, e, a, b⟩ => ⟨v, r, e, Rep.mono h a, RepK.mono h b⟩
theorem RepF.mono {C : Cc S} {G G' : Hp} (h : Same G G') : ∀ {ds : List (Str × D)} {vs : List (Str × V)}, RepF C G ds vs → RepF C G' ds vs
  | [], _, r => r
  | (_, _) :: _, _, ⟨v, r, e, a, b⟩ => ⟨v, r, e, Rep.mono h a, RepF.mono h b⟩
end
theorem RepL.length {C : Cc S} {G : Hp} : ∀ {ds : List D} {vs : List V}, RepL C G ds vs → vs.length = ds.length
  | [], _, r => by rw [r]; rfl
  | _ :: _, _, ⟨v, r, e, _, b⟩ => by rw [e, List.length_cons, List.length_cons, b.length]
theorem RepL.append {C : Cc S} {G : Hp} : ∀ {ds es : List D} {vs us : List V}, RepL C G ds vs → RepL C G es us → RepL C G (ds ++ es) (vs ++ us)
  | [], _, _, _, r, q => by subst r; exact q
  | _ :: _, _, _, _, ⟨v, r, e, a, b⟩, q => by subst e; exact ⟨v, _, rfl, a, b.append q⟩
theorem RepL.get {C : Cc S} {G : Hp} : ∀ {ds : List D} {vs : List V} {i : Nat} {d : D}, RepL C G ds vs → ds[i]? = some d → ∃ v, vs[i]? = some v ∧ Rep C G d v
  | [], _, _, _, _, h => by simp at h
  | _ :: _, _, 0, _, ⟨v, r, e, a, b⟩, h => by
    subst e
    simp at h
    subst h
    exact ⟨v, by simp, a⟩
  | _ :: _, _, i + 1, _, ⟨v, r, e, a, b⟩, h => by
    subst e
    obtain ⟨v', h1, h2⟩ := b.get (i := i) (by simpa using h)
    exact ⟨v', by simpa using h1, h2⟩
theorem RepL.one {C : Cc S} {G : Hp} {d : D} {v : V} (r : Rep C G d v) : RepL C G [d] [v] := ⟨v, [], rfl, r, rfl⟩
theorem RepL.cons {C : Cc S} {G : Hp} {d : D} {v : V} {ds : List D} {vs : List V} (r : Rep C G d v) (q : RepL C G ds vs) : RepL C G (d :: ds) (v :: vs) := ⟨v, vs, rfl, r, q⟩
/-- a code object that was tracked may be frozen -/
def NwO (reg : Addr → Prop) (H : Hp) (a : Addr) (o : HO) : Prop := ∃ c q, o = LamX.CodeO c q ∧ (reg a ∨ H a = some o ∨ ∃ ps, H a = some (.tbl ps))
theorem NwO.back {reg reg1 : Addr → Prop} {H H1 : Hp} {b : Addr} {o : HO} (fr : ∀ a o, H a = some o → ¬ reg a → NoTbl o → H1 a = some o) (h : NwO reg1 H1 b o) (hr : reg1 b → reg b ∨ H b = none) : H b = none ∨ NwO reg H b o := by
  obtain ⟨c, q, e, h⟩ := h
  by_cases r : reg b
  · exact .inr ⟨c, q, e, .inl r⟩
  · cases hb : H b with
    | none => exact .inl rfl
    | some o' =>
      refine .inr ⟨c, q, e, .inr ?_⟩
      by_cases t : NoTbl o'
      · have h1 := fr b o' hb r t
        rcases h with h | h | ⟨ps, h⟩
        · rcases hr h with z | z
          · exact absurd z r
          · rw [z] at hb; cases hb
        · rw [h1] at h; rw [hb]; exact .inl h
        · rw [h1] at h; exact absurd (Option.some.inj h) (t ps)
      · obtain ⟨ps, t⟩ := Classical.not_forall.mp t
        rw [Classical.not_not.mp t] at hb
        exact .inr ⟨ps, hb.symm ▸ rfl⟩
/-- from one state to a later one: what is frozen stays, what is tracked stays outside the world, what is newly frozen was not tracked -/
structure Ext (reg : Addr → Prop) (G H G' H' : Hp) : Prop where
  g : Same G G'
  fr : ∀ a o, H a = some o → ¬ reg a → NoTbl o → H' a = some o
  nw : ∀ a o, G' a = some o → G a = some o ∨ H a = none ∨ NwO reg H a o
  tr : ∀ a, H' a = none → H a = none
theorem Ext.refl (reg : Addr → Prop) (G H : Hp) : Ext reg G H G H := ⟨fun _ _ h => h, fun _ _ h _ _ => h, fun _ _ h => .inl h, fun _ h => h⟩
theorem Ext.trans {reg : Addr → Prop} {G H G1 H1 G2 H2 : Hp} (a : Ext reg G H G1 H1) (b : Ext reg G1 H1 G2 H2) : Ext reg G H G2 H2 where
  g := a.g.trans b.g
  fr := fun c o h n t => b.fr c o (a.fr c o h n t) n t
  nw := fun c o h => by
    rcases b.nw c o h with q | q | q
    · exact a.nw c o q
    · exact .inr (.inl (a.tr c q))
    · exact .inr (q.back a.fr .inl)
  tr := fun c h => a.tr c (b.tr c h)
theorem Ext.wide {reg reg' : Addr → Prop} {G H G' H' : Hp} (a : Ext reg G H G' H') (h : ∀ x, reg x → reg' x) : Ext reg' G H G' H' := ⟨a.g, fun c o q n t => a.fr c o q (fun z => n (h c z)) t, fun c o q => (a.nw c o q).imp_right fun q => q.imp_right fun ⟨x, y, e, q⟩ => ⟨x, y, e, q.imp_left (h c)⟩, a.tr⟩
/-- the ground: the frozen part, the world -/
structure Gd (C : Cc S) (G H : Hp) (s : S) : Prop where
  gh : Same G H
  w : C.rep s H
  gr : ∀ a, C.reg a → G a = none
  nt : ∀ a o, G a = some o → NoTbl o
/-- a new object, frozen -/
theorem Gd.new {C : Cc S} {G H : Hp} {s : S} (g : Gd C G H s) {p : Addr} (n : H p = none) (o : HO) (ho : NoTbl o := by intro _ h; cases h) : Gd C (upd G p o) (upd H p o) s ∧ Ext C.reg G H (upd G p o) (upd H p o) := by
  have np : ¬ C.reg p := fun z => by
    obtain ⟨u, e⟩ := C.there s H p g.w z
    rw [n] at e; cases e
  have hG : G p = none := g.gh.free n
  refine ⟨⟨fun b u e => ?_, C.frame s H _ (fun b u e _ => by rw [upd_ne (ne_of_none e n)]; exact e) g.w, fun b hb => ?_, fun b u e => ?_⟩, fun b u e => ?_, fun b u e _ _ => ?_, fun b u e => ?_, fun b e => ?_⟩
  · by_cases h : b = p
    · subst h; rw [upd_same] at e ⊢; exact e
    · rw [upd_ne h] at e ⊢; exact g.gh _ _ e
  · rw [upd_ne fun z : b = p => np (z ▸ hb)]; exact g.gr b hb
  · by_cases h : b = p
    · subst h; rw [upd_same] at e; cases e; exact ho
    · rw [upd_ne h] at e; exact g.nt b u e
  · rw [upd_ne (ne_of_none e hG)]; exact e
  · rw [upd_ne (ne_of_none e n)]; exact e
  · by_cases h : b = p
    · subst h; exact .inr (.inl n)
    · rw [upd_ne h] at e; exact .inl e
  · by_cases h : b = p
    · subst h; rw [upd_same] at e; cases e
    · rw [upd_ne h] at e; exact e
/-- a new object, not frozen yet -/
theorem Gd.open_ {C : Cc S} {G H : Hp} {s : S} (g : Gd C G H s) {p : Addr} (n : H p = none) (o : HO) : Gd C G (upd H p o) s ∧ Ext C.reg G H G (upd H p o) := by
  refine ⟨⟨fun b u e => ?_, C.frame s H _ (fun b u e _ => by rw [upd_ne (ne_of_none e n)]; exact e) g.w, g.gr, g.nt⟩, fun b u e => e, fun b u e _ _ => ?_, fun b u e => .inl e, fun b e => ?_⟩
  · have q := g.gh _ _ e
    rw [upd_ne (ne_of_none q n)]; exact q
  · rw [upd_ne (ne_of_none e n)]; exact e
  · by_cases h : b = p
    · subst h; rw [upd_same] at e; cases e
    · rw [upd_ne h] at e; exact e
/-- an object that is not frozen and not the world's is written -/
theorem Gd.write {C : Cc S} {G H : Hp} {s : S} (g : Gd C G H s) {p : Addr} {o' : HO} (e : H p = some o') (n : G p = none) (nr : ¬ C.reg p) (o : HO) (nf : ¬ Fixd o' := by exact fun h => h) : Gd C G (upd H p o) s := by
  refine ⟨fun b u q => ?_, C.frame s H _ (fun b u q h => ?_) g.w, g.gr, g.nt⟩
  · have z := g.gh _ _ q
    rw [upd_ne (ne_of_none q n)]; exact z
  · have hb : b ≠ p := fun z => by
      subst z
      rw [e] at q; cases q
      exact h.elim nr nf
    rw [upd_ne hb]; exact q
/-- an object that was not frozen is frozen -/
theorem Gd.freeze {C : Cc S} {G H : Hp} {s : S} (g : Gd C G H s) {p : Addr} {o : HO} (e : H p = some o) (nr : ¬ C.reg p) (ho : NoTbl o := by intro _ h; cases h) : Gd C (upd G p o) H s := by
  refine ⟨fun b u q => ?_, g.w, fun b hb => ?_, fun b u q => ?_⟩
  · by_cases h : b = p
    · subst h; rw [upd_same] at q; cases q; exact e
    · rw [upd_ne h] at q; exact g.gh _ _ q
  · rw [upd_ne fun z : b = p => nr (z ▸ hb)]; exact g.gr b hb
  · by_cases h : b = p
    · subst h; rw [upd_same] at q; cases q; exact ho
    · rw [upd_ne h] at q; exact g.nt b u q
/-- what is fixed through a def's body: the ground at its entry, what it may write besides the world, the wish about errors -/
structure Fx (S : Type) extends Cc S where
  G0 : Hp
  H0 : Hp
  reg0 : Addr → Prop
  sub : ∀ a, reg a → reg0 a
  wish : WX
def RepSlot (F : Fx S) (G H : Hp) : Option Slot → Option V → Prop
  | none, _ => True
  | some (.val d), o => ∃ v, o = some v ∧ Rep F.toCc G d v
  | some (.own ds), o => ∃ a vs, o = some (.ref a) ∧ H a = some (.lst vs) ∧ G a = none ∧ ¬ F.reg a ∧ F.H0 a = none ∧ vs.length ≤ sizeLine ∧ RepL F.toCc G ds vs
  | some (.obj c fs), o => ∃ a dx vs, o = some (.ref a) ∧ H a = some (.ins (F.cad c) dx vs) ∧ H dx = some (.own a) ∧ G a = none ∧ G dx = none ∧ ¬ F.reg a ∧ ¬ F.reg dx ∧ F.reg0 a ∧ (∃ C' fv0, F.H0 a = some (.ins C' dx fv0)) ∧ RepF F.toCc G fs vs
structure RepEnv (F : Fx S) (G H : Hp) (σ : L2.St) (env : Env) : Prop where
  len : σ.length = env.length
  at_ : ∀ (i : Nat) (sl : Option Slot), env[i]? = some sl → ∃ o, σ[i]? = some o ∧ RepSlot F G H sl o
  apart : ∀ i j : Nat, i ≠ j → isOwn env[i]? → isOwn env[j]? → σ[i]? ≠ σ[j]?
structure StG (F : Fx S) (G : Hp) (σ : L2.St) (H : Hp) (env : Env) (s : S) : Prop where
  ext : Ext F.reg0 F.G0 F.H0 G H
  gd : Gd F.toCc G H s
  env_ : RepEnv F G H σ env
theorem Ext.un {reg : Addr → Prop} {G H G' H' : Hp} (e : Ext reg G H G' H') {b : Addr} {o : HO} (q : H b = some o) (n : G b = none) (nr : ¬ reg b) (nc : (∀ c q, o ≠ LamX.CodeO c q) ∧ ∀ ps, o ≠ .tbl ps := by exact ⟨(fun _ _ h => by cases h), fun _ h => by cases h⟩) : G' b = none := by
  cases y : G' b with
  | none => rfl
  | some o =>
    rcases e.nw b o y with w | w | ⟨c, x, w, z⟩
    · rw [n] at w; cases w
    · rw [q] at w; cases w
    · rcases z with z | z | ⟨ps, z⟩
      · exact absurd z nr
      · rw [q] at z; exact absurd ((Option.some.inj z).trans w) (nc.1 c x)
      · rw [q] at z; exact absurd (Option.some.inj z) (nc.2 ps)
theorem RepSlot.ext {F : Fx S} {G H G' H' : Hp} (e : Ext F.reg G H G' H') : ∀ {sl : Option Slot} {o : Option V}, RepSlot F G H sl o → RepSlot F G' H' sl o
  | none, _, _ => trivial
  | some (.val _), _, ⟨v, h, r⟩ => ⟨v, h, r.mono e.g⟩
  | some (.own _), _, ⟨a, vs, h, q, n, nr, n0, z, r⟩ => ⟨a, vs, h, e.fr _ _ q nr (by intro _ h; cases h), e.un q n nr, nr, n0, z, r.mono e.g⟩
  | some (.obj _ _), _, ⟨a, dx, vs, h, q, qd, n, nd, nr, nrd, r0, h0, r⟩ => ⟨a, dx, vs, h, e.fr _ _ q nr (by intro _ h; cases h), e.fr _ _ qd nrd (by intro _ h; cases h), e.un q n nr, e.un qd nd nrd, nr, nrd, r0, h0, r.mono e.g⟩
theorem StG.ext' {F : Fx S} {G G' : Hp} {σ : L2.St} {H H' : Hp} {env : Env} {s s' : S} (h : StG F G σ H env s) (e : Ext F.reg G H G' H') (g : Gd F.toCc G' H' s') : StG F G' σ H' env s' :=
  ⟨h.ext.trans (e.wide F.sub), g, h.env_.len, fun i sl q => let ⟨o, a, b⟩ := h.env_.at_ i sl q; ⟨o, a, b.ext e⟩, h.env_.apart⟩
/-! ### the readings as the hand layer's -/
def RepX (C : Cc S) (G : Hp) : D → Value → Option Addr → Prop
  | .exc c fs, cls, dd => cls = .ref (C.cad c) ∧ ((fs = [] ∧ dd = none) ∨ ∃ d vs, dd = some d ∧ G d = some (.xd vs) ∧ RepF C G fs vs)
  | _, _, _ => False
/-- behind a value; behind an error -/
def Post {α : Type} (F : Fx S) (G H : Hp) (r : Res S α) (Q : α → S → Prop) : Prop := match r with
  | .ok a s' => Q a s'
  | .err x s' => ∀ cls dd σ' G' H', Same G G' → Ext F.reg0 F.G0 F.H0 G' H' → Gd F.toCc G' H' s' → RepX F.toCc G' x cls dd → F.wish cls dd σ' H'
  | .stk => False
theorem Post.mono {α : Type} {F : Fx S} {G H : Hp} {r : Res S α} {Q Q' : α → S → Prop} (h : Post F G H r Q) (m : ∀ a s', r = .ok a s' → Q a s' → Q' a s') : Post F G H r Q' := by
  cases r with
  | ok a s' => exact m a s' rfl h
  | err x s' => exact h
  | stk => exact h
theorem Post.bind {α β : Type} {F : Fx S} {G H : Hp} {r : Res S α} {f : α → S → Res S β} {Q : β → S → Prop} (h : Post F G H (r.bind f) Q) : Post F G H r fun a s' => Post F G H (f a s') Q := by
  cases r with
  | ok a s' => exact h
  | err x s' => exact h
  | stk => exact h
theorem Post.later {α : Type} {F : Fx S} {G H G' H' : Hp} {r : Res S α} {Q : α → S → Prop} (h : Post F G H r Q) (e : Same G G') : Post F G' H' r Q := by
  cases r with
  | ok a s' => exact h
  | err x s' => exact fun cls dd σ' G2 H2 e2 => h cls dd σ' G2 H2 (e.trans e2)
  | stk => exact h
theorem Post.grd {α : Type} {F : Fx S} {G H : Hp} {p : Prop} [Decidable p] {m : M S α} {s : S} {Q : α → S → Prop} (h : Post F G H (DL.grd p m s) Q) : p ∧ Post F G H (m s) Q := by
  unfold DL.grd at h
  by_cases q : p
  · rw [if_pos q] at h; exact ⟨q, h⟩
  · rw [if_neg q] at h; exact h.elim
def tE (F : Fx S) (τ : Env → M S D) : TE := fun σ H Q => ∃ G env s, StG F G σ H env s ∧
  Post F G H (τ env s) fun d s' => ∀ v G' H', Ext F.reg G H G' H' → StG F G' σ H' env s' → Rep F.toCc G' d v → Q v H'
def tT (F : Fx S) (τ : Env → M S Bool) : TT := fun σ H Q => ∃ G env s, StG F G σ H env s ∧
  Post F G H (τ env s) fun b s' => ∀ G' H', Ext F.reg G H G' H' → StG F G' σ H' env s' → Q b H'
def tA (F : Fx S) (τ : Env → M S (List D)) : TA := fun σ H Q => ∃ G env s, StG F G σ H env s ∧
  Post F G H (τ env s) fun ds s' => ∀ vs G' H', Ext F.reg G H G' H' → StG F G' σ H' env s' → RepL F.toCc G' ds vs → Q vs H'
def FP (F : Fx S) (G : Hp) (D : Ends) (fl : Flw) (s' : S) : Prop := match fl with
  | .nx e => ∀ σ' G' H', Same G G' → StG F G' σ' H' e s' → D.nx σ' H'
  | .bk e => ∀ σ' G' H', Same G G' → StG F G' σ' H' e s' → D.bk σ' H'
  | .ct e => ∀ σ' G' H', Same G G' → StG F G' σ' H' e s' → D.ct σ' H'
  | .rt d => ∀ v G' H', Same G G' → Ext F.reg0 F.G0 F.H0 G' H' → Gd F.toCc G' H' s' → Rep F.toCc G' d v → D.rt v H'
def tS (F : Fx S) (τ : Env → M S Flw) : TS := fun D σ H => ∃ G env s, StG F G σ H env s ∧ Post F G H (τ env s) (FP F G D)
theorem FP.later {F : Fx S} {G G' : Hp} {D : Ends} {fl : Flw} {s' : S} (h : FP F G D fl s') (e : Same G G') : FP F G' D fl s' := by
  cases fl with
  | nx _ => exact fun σ' G2 H2 q => h σ' G2 H2 (e.trans q)
  | bk _ => exact fun σ' G2 H2 q => h σ' G2 H2 (e.trans q)
  | ct _ => exact fun σ' G2 H2 q => h σ' G2 H2 (e.trans q)
  | rt _ => exact fun v G2 H2 q => h v G2 H2 (e.trans q)
/-! ### weakening -/
theorem pe_mono {X : Cx} {e : Expr} {t t' : TE} (h : PE X e t) (m : ∀ σ H Q, t' σ H Q → t σ H Q) : PE X e t' := ⟨fun pins s σ H Q I q => h.run pins s σ H Q I (m σ H Q q)⟩
theorem pt_mono {X : Cx} {e : Expr} {t t' : TT} (h : PT X e t) (m : ∀ σ H Q, t' σ H Q → t σ H Q) : PT X e t' := ⟨fun pins s σ H Q I q => h.run pins s σ H Q I (m σ H Q q)⟩
theorem pw_mono {X : Cx} {e : Expr} {t t' : TT} (h : PW X e t) (m : ∀ σ H Q, t' σ H Q → t σ H Q) : PW X e t' := ⟨fun wh pins s σ H Q I q => h.run wh pins s σ H Q I (m σ H Q q)⟩
theorem pa_mono {X : Cx} {es : List Expr} {t t' : TA} (h : PA X es t) (m : ∀ σ H Q, t' σ H Q → t σ H Q) : PA X es t' := ⟨fun pos pins s σ H Q I q => h.run pos pins s σ H Q I (m σ H Q q)⟩
theorem ps_mono {X : Cx} {st : Stmt} {t t' : TS} (h : PS X st t) (m : ∀ D σ H, t' D σ H → t D σ H) : PS X st t' := ⟨fun pins s σ H D I q => h.run pins s σ H D I (m D σ H q)⟩
theorem pss_mono {X : Cx} {st : List Stmt} {t t' : TS} (h : PSs X st t) (m : ∀ D σ H, t' D σ H → t D σ H) : PSs X st t' := ⟨fun pins s σ H D I q => h.run pins s σ H D I (m D σ H q)⟩
end DL
set_option Elab.async false
set_option linter.all false
set_option maxRecDepth 100000
set_option maxHeartbeats 4000000
set_option autoImplicit false
namespace DL
open PySem PySem.Spec PyProof.Rows L2
variable {S : Type} {X : Cx} {F : Fx S}
/-! ### sequencing -/
theorem seqE {α : Type} {τ : Env → M S D} {k : D → S → Res S α} {G H : Hp} {σ : L2.St} {env : Env} {s : S} {P : α → S → Prop} {Q : VK} (st : StG F G σ H env s) (p : Post F G H ((τ env s).bind k) P)
    (h : ∀ d s1 v G1 H1, Ext F.reg G H G1 H1 → StG F G1 σ H1 env s1 → Rep F.toCc G1 d v → Post F G1 H1 (k d s1) P → Q v H1) : tE F τ σ H Q :=
  ⟨G, env, s, st, p.bind.mono fun d s1 _ hk v G1 H1 e1 st1 r1 => h d s1 v G1 H1 e1 st1 r1 (hk.later e1.g)⟩
theorem seqT {α : Type} {τ : Env → M S Bool} {k : Bool → S → Res S α} {G H : Hp} {σ : L2.St} {env : Env} {s : S} {P : α → S → Prop} {Q : Bool → Hp → Prop} (st : StG F G σ H env s) (p : Post F G H ((τ env s).bind k) P)
    (h : ∀ b s1 G1 H1, Ext F.reg G H G1 H1 → StG F G1 σ H1 env s1 → Post F G1 H1 (k b s1) P → Q b H1) : tT F τ σ H Q :=
  ⟨G, env, s, st, p.bind.mono fun d s1 _ hk G1 H1 e1 st1 => h d s1 G1 H1 e1 st1 (hk.later e1.g)⟩
theorem seqA {α : Type} {τ : Env → M S (List D)} {k : List D → S → Res S α} {G H : Hp} {σ : L2.St} {env : Env} {s : S} {P : α → S → Prop} {Q : List V → Hp → Prop} (st : StG F G σ H env s) (p : Post F G H ((τ env s).bind k) P)
    (h : ∀ ds s1 vs G1 H1, Ext F.reg G H G1 H1 → StG F G1 σ H1 env s1 → RepL F.toCc G1 ds vs → Post F G1 H1 (k ds s1) P → Q vs H1) : tA F τ σ H Q :=
  ⟨G, env, s, st, p.bind.mono fun d s1 _ hk v G1 H1 e1 st1 r1 => h d s1 v G1 H1 e1 st1 r1 (hk.later e1.g)⟩
/-- what follows a value -/
abbrev K1 (F : Fx S) (G H : Hp) (σ : L2.St) (env : Env) (Q : VK) : D → S → Prop := fun d s' => ∀ v G' H', Ext F.reg G H G' H' → StG F G' σ H' env s' → Rep F.toCc G' d v → Q v H'
theorem K1.trans {G H G1 H1 : Hp} {σ : L2.St} {env : Env} {Q : VK} {d : D} {s' : S} (e : Ext F.reg G H G1 H1) (h : K1 F G H σ env Q d s') : K1 F G1 H1 σ env Q d s' := fun v G' H' e' => h v G' H' (e.trans e')
theorem Post.K1 {G H G1 H1 : Hp} {σ : L2.St} {env : Env} {Q : VK} {r : Res S D} (e : Ext F.reg G H G1 H1) (h : Post F G1 H1 r (K1 F G H σ env Q)) : Post F G1 H1 r (K1 F G1 H1 σ env Q) := h.mono fun _ _ _ q => q.trans e
/-! ### names and constants -/
def rVar (i : Nat) : Env → M S D := fun env => match env[i]? with
  | some (some (.val d)) => pure d
  | _ => stk
def rC (d : D) : Env → M S D := fun _ => pure d
theorem de_var (i : Nat) {e : Expr} (h : PE X e (tVar i)) : PE X e (tE F (rVar i)) := pe_mono h fun σ H Q ⟨G, env, s, st, p⟩ => by
  have q : Post F G H ((match env[i]? with
    | some (some (.val d)) => pure d
    | _ => stk : M S D) s) _ := p
  cases hd : env[i]? with
  | none => rw [hd] at q; exact q.elim
  | some sl =>
    rw [hd] at q
    cases sl with
    | none => exact q.elim
    | some sl =>
      cases sl with
      | val d =>
        obtain ⟨o, ho, v, ev, r⟩ := st.env_.at_ i _ hd
        subst ev
        exact ⟨v, ho, q v G H (Ext.refl _ _ _) st r⟩
      | own _ => exact q.elim
      | obj _ _ => exact q.elim
theorem de_c {e : Expr} {d : D} {v : V} (h : PE X e (tC v)) (r : ∀ G, Rep F.toCc G d v) : PE X e (tE F (rC d)) := pe_mono h fun σ H Q ⟨G, env, s, st, p⟩ => p v G H (Ext.refl _ _ _) st (r G)
theorem de_int {i : Int} {j pos} : PE X (.Constant (.int i) j pos) (tE F (rC (.int i))) := de_c pe_int fun _ => rfl
theorem de_bl {b : Bool} {j pos} : PE X (.Constant (.bool b) j pos) (tE F (rC (.bl b))) := de_c pe_bl fun _ => rfl
theorem de_non {j pos} : PE X (.Constant .none j pos) (tE F (rC .non)) := de_c pe_non fun _ => rfl
theorem de_str {x : Str} {j pos} : PE X (.Constant (.str x) j pos) (tE F (rC (.str x))) := de_c pe_str fun _ => rfl
theorem de_gint {x : Str} {i : Int} {pos : Pos} (hg : Gl X x) (hm : ∃ t, X.mg x = some (.int i t)) (hd : (x == ("__debug__" : Str)) = false := by decide) : PE X (.Name x pos) (tE F (rC (.int i))) := by
  obtain ⟨t, hm⟩ := hm
  exact de_c (pe_glob (v := .int i) hg hm ⟨t, rfl⟩ hd) fun _ => rfl
/-- no claim of this expression -/
def rNo : Env → M S D := fun _ => stk
/-! ### two-place operations -/
def OpD (F : Fx S) (r : R2) (f : D → D → M S D) : Prop := ∀ G σ H env s d e x y Q, StG F G σ H env s → Rep F.toCc G d x → Rep F.toCc G e y → Post F G H (f d e s) (K1 F G H σ env Q) → r x y H Q
def bin (f : D → D → M S D) (τ υ : Env → M S D) : Env → M S D := fun env => do
  let x ← τ env
  let y ← υ env
  f x y
theorem tOp_of {r : R2} {f : D → D → M S D} {τ υ : Env → M S D} (hd : OpD F r f) (σ : L2.St) (H : Hp) (Q : VK) (h : tE F (bin f τ υ) σ H Q) : tOp r (tE F τ) (tE F υ) σ H Q := by
  obtain ⟨G, env, s, st, p⟩ := h
  refine seqE st p fun d s1 x G1 H1 e1 st1 r1 p1 => ?_
  refine seqE st1 p1 fun e s2 y G2 H2 e2 st2 r2 p2 => ?_
  exact hd G2 σ H2 env s2 d e x y Q st2 (r1.mono e2.g) r2 (p2.K1 (e1.trans e2))
theorem de_op {op : Operator} {r : R2} {f : D → D → M S D} {a b : Expr} {τ υ : Env → M S D} {pos : Pos} (ho : OpR X (binaryOp op) r) (hd : OpD F r f) (ha : PE X a (tE F τ)) (hb : PE X b (tE F υ)) : PE X (.BinOp a op b pos) (tE F (bin f τ υ)) :=
  pe_mono (pe_op ho ha hb) (tOp_of hd)
theorem de_cmp {op : CmpOp} {r : R2} {f : D → D → M S D} {a b : Expr} {τ υ : Env → M S D} {pos : Pos} (ho : OpR X (compareOp op) r) (hd : OpD F r f) (ha : PE X a (tE F τ)) (hb : PE X b (tE F υ)) (hm : behindInMarks op b = false) : PE X (.Compare a [op] [b] pos) (tE F (bin f τ υ)) :=
  pe_mono (pe_cmpR ho ha hb hm) (tOp_of hd)
theorem de_ix {r : R2} {f : D → D → M S D} {a b : Expr} {τ υ : Env → M S D} {pos : Pos} (hr : IxR X r) (hd : OpD F r f) (ha : PE X a (tE F τ)) (hb : PE X b (tE F υ)) (hs : PlainIx b) : PE X (.Subscript a b pos) (tE F (bin f τ υ)) :=
  pe_mono (pe_ix hr ha hb hs) (tOp_of hd)
theorem OpR_or {f : Value → Value → Sem Value} {r r' : R2} (h : OpR X f r) (h' : OpR X f r') : OpR X f (fun x y H Q => r x y H Q ∨ r' x y H Q) := by
  intro pins s σ H x y v u Q I rx ry q
  rcases q with q | q
  · exact h pins s σ H x y v u Q I rx ry q
  · exact h' pins s σ H x y v u Q I rx ry q
/-! ### one test or value as a test -/
def asT (τ : Env → M S D) : Env → M S Bool := fun env => do
  match ← τ env with
  | .bl b => pure b
  | _ => stk
/-- a value that is True or False, as a test -/
theorem dt_val {e : Expr} {τ : Env → M S D} (h : PE X e (tE F τ)) (he : ∀ whole, isTrue e X.env whole = (do let v ← whole; standAt e.pos; holding [v] (truthy v)) := by intro _; rfl) : PT X e (tT F (asT τ)) :=
  pt_mono (pt_val h he) fun σ H Q ⟨G, env, s, st, p⟩ => by
    refine seqE st p fun d s1 v G1 H1 e1 st1 r1 p1 => ?_
    cases d with
    | bl b => exact ⟨b, r1, p1 G1 H1 e1 st1⟩
    | _ => exact p1.elim
theorem dt_cmp {op : CmpOp} {r : R2} {f : D → D → M S D} {a b : Expr} {τ υ : Env → M S D} {pos : Pos} (ho : OpR X (compareOp op) r) (hd : OpD F r f) (ha : PE X a (tE F τ)) (hb : PE X b (tE F υ)) (hm : behindInMarks op b = false) : PT X (.Compare a [op] [b] pos) (tT F (asT (bin f τ υ))) :=
  pt_mono (pt_cmpR ho ha hb hm) fun σ H Q ⟨G, env, s, st, p⟩ => by
    refine tOp_of hd σ H _ (seqE st p fun d s1 v G1 H1 e1 st1 r1 p1 => ?_)
    cases d with
    | bl b => exact ⟨b, r1, p1 G1 H1 e1 st1⟩
    | _ => exact p1.elim
def chn (f g : D → D → M S D) (τ υ ω : Env → M S D) : Env → M S D := fun env => do
  let x ← τ env
  let y ← υ env
  match ← f x y with
  | .bl true => do
    let z ← ω env
    match ← g y z with
    | .bl b => pure (.bl b)
    | _ => stk
  | .bl false => pure (.bl false)
  | _ => stk
theorem tChain_of {r r' : R2} {f g : D → D → M S D} {τ υ ω : Env → M S D} (hd : OpD F r f) (hd' : OpD F r' g) (σ : L2.St) (H : Hp) (Q : VK) (h : tE F (chn f g τ υ ω) σ H Q) : tChain r r' (tE F τ) (tE F υ) (tE F ω) σ H Q := by
  obtain ⟨G, env, s, st, p⟩ := h
  refine seqE st p fun d s1 x G1 H1 e1 st1 r1 p1 => ?_
  refine seqE st1 p1 fun e s2 y G2 H2 e2 st2 r2 p2 => ?_
  refine hd G2 σ H2 env s2 d e x y _ st2 (r1.mono e2.g) r2 (p2.bind.mono fun z s3 _ hk v G3 H3 e3 st3 r3 => ?_)
  cases z with
  | bl b =>
    cases r3
    refine ⟨b, rfl, ?_⟩
    cases b with
    | true =>
      rw [if_pos rfl]
      refine seqE st3 (hk.later e3.g) fun z s4 w G4 H4 e4 st4 r4 p4 => ?_
      refine hd' G4 σ H4 env s4 e z y w Q st4 (r2.mono (e3.trans e4).g) r4 (p4.bind.mono fun u s5 _ hk v G5 H5 e5 st5 r5 => ?_)
      cases u with
      | bl b => exact hk v G5 H5 (((e1.trans e2).trans e3).trans (e4.trans e5)) st5 r5
      | _ => exact hk.elim
    | false =>
      rw [if_neg Bool.false_ne_true]
      exact hk _ G3 H3 ((e1.trans e2).trans e3) st3 rfl
  | _ => exact hk.elim
theorem de_chain {op op' : CmpOp} {r r' : R2} {f g : D → D → M S D} {a b c : Expr} {τ υ ω : Env → M S D} {pos : Pos} (ho : OpR X (compareOp op) r) (hd : OpD F r f) (ho' : OpR X (compareOp op') r') (hd' : OpD F r' g) (ha : PE X a (tE F τ)) (hb : PE X b (tE F υ)) (hc : PE X c (tE F ω))
    (hm : lastMarks [op, op'] [b, c] = false := by with_unfolding_all rfl) : PE X (.Compare a [op, op'] [b, c] pos) (tE F (chn f g τ υ ω)) := pe_mono (pe_chain ho ho' ha hb hc hm) (tChain_of hd hd')
theorem dt_chain {op op' : CmpOp} {r r' : R2} {f g : D → D → M S D} {a b c : Expr} {τ υ ω : Env → M S D} {pos : Pos} (ho : OpR X (compareOp op) r) (hd : OpD F r f) (ho' : OpR X (compareOp op') r') (hd' : OpD F r' g) (ha : PE X a (tE F τ)) (hb : PE X b (tE F υ)) (hc : PE X c (tE F ω))
    (hm : lastMarks [op, op'] [b, c] = false := by with_unfolding_all rfl) : PT X (.Compare a [op, op'] [b, c] pos) (tT F (asT (chn f g τ υ ω))) :=
  pt_mono (pt_chain ho ho' ha hb hc hm) fun σ H Q ⟨G, env, s, st, p⟩ => by
    refine tChain_of hd hd' σ H _ (seqE st p fun d s1 v G1 H1 e1 st1 r1 p1 => ?_)
    cases d with
    | bl b => exact ⟨b, r1, p1 G1 H1 e1 st1⟩
    | _ => exact p1.elim
/-! ### truth -/
def truD : D → M S Bool
  | .non => pure false
  | .bl b => pure b
  | .int i => pure (i != 0)
  | .str x => grd (x.length ≤ sizeLine) (pure ((x.length : Int) != 0))
  | .lst ds => pure (!ds.isEmpty)
  | .tup ds => pure (!ds.isEmpty)
  | .dct ds => pure (!ds.isEmpty)
  | _ => stk
theorem RepL.isEmpty {C : Cc S} {G : Hp} {ds : List D} {vs : List V} (r : RepL C G ds vs) : vs.isEmpty = ds.isEmpty := by
  have := r.length
  cases ds <;> cases vs <;> simp_all
theorem RepK.length {C : Cc S} {G : Hp} : ∀ {ds : List (Key × D)} {vs : List (Key × V)}, RepK C G ds vs → vs.length = ds.length
  | [], _, r => by rw [r]; rfl
  | (_, _) :: _, _, ⟨v, r, e, _, b⟩ => by rw [e, List.length_cons, List.length_cons, b.length]
theorem SqT.sub {K : PySem.W.Frag} {G H : Hp} {a : Addr} {xs : List V} (e : Same G H) (h : SqT K G a xs) : SqT K H a xs := by
  rcases h with (h | ⟨o, h⟩) | h
  · exact .inl (.inl (e _ _ h))
  · exact .inl (.inr ⟨o, e _ _ h⟩)
  · exact .inr h
/-- one value through truth -/
theorem tru_of {α : Type} {C : Cc S} {G H : Hp} {s : S} {d : D} {v : V} {k : Bool → S → Res S α} {P : α → S → Prop} (hgh : Same G H) (r : Rep C G d v) {F : Fx S} {G1 H1 : Hp} (p : Post F G1 H1 (((truD d : M S Bool) s).bind k) P) :
    ∃ b, TruV C.K v H b ∧ Post F G1 H1 (k b s) P := by
  cases d with
  | non => cases r; exact ⟨_, rfl, p⟩
  | bl b => cases r; exact ⟨_, rfl, p⟩
  | int i => cases r; exact ⟨_, rfl, p⟩
  | str x =>
    cases r
    obtain ⟨h, q⟩ := Post.grd (Post.bind p)
    exact ⟨_, ⟨h, rfl⟩, q⟩
  | lst ds =>
    obtain ⟨a, vs, rfl, q, z, r⟩ := r
    refine ⟨_, .inl ⟨vs, .inl (.inl (hgh _ _ q)), rfl⟩, ?_⟩
    rw [r.isEmpty]; exact p
  | tup ds =>
    obtain ⟨a, vs, rfl, q, z, r⟩ := r
    refine ⟨_, .inr (.inl ⟨vs, SqT.sub hgh q, rfl⟩), ?_⟩
    rw [r.isEmpty]; exact p
  | dct ds =>
    obtain ⟨a, vs, rfl, q, r⟩ := r
    refine ⟨_, .inr (.inr ⟨vs, hgh _ _ q, rfl⟩), ?_⟩
    have e : vs.isEmpty = ds.isEmpty := by
      have := r.length
      cases ds <;> cases vs <;> simp_all
    rw [e]; exact p
  | ins c fs => exact p.elim
  | exc c fs => exact p.elim
  | hnd _ => exact p.elim
  | dks _ => exact p.elim
  | fn _ => exact p.elim
  | adr _ _ => exact p.elim
  | rps _ => exact p.elim
  | scr ns => exact p.elim
def asTr (τ : Env → M S D) : Env → M S Bool := fun env => do truD (← τ env)
/-! ### and, or, not, if -/
def andT (τ υ : Env → M S Bool) : Env → M S Bool := fun env => do if ← τ env then υ env else pure false
def orT (τ υ : Env → M S Bool) : Env → M S Bool := fun env => do if ← τ env then pure true else υ env
def notT (τ : Env → M S Bool) : Env → M S Bool := fun env => do return !(← τ env)
variable {a b c : Expr} {pos : Pos} {rest : List Expr} {op : BoolOp}
theorem dw_and1 {τ : Env → M S Bool} (h : PT X a (tT F τ)) : PW X (.BoolOp .And [a] pos) (tT F τ) := pw_and1 h
theorem dw_or1 {τ : Env → M S Bool} (h : PT X a (tT F τ)) : PW X (.BoolOp .Or [a] pos) (tT F τ) := pw_or1 h
theorem tT_end {τ : Env → M S Bool} {G H G1 H1 : Hp} {σ : L2.St} {env : Env} {s : S} {Q : Bool → Hp → Prop} (e : Ext F.reg G H G1 H1) (st : StG F G1 σ H1 env s) (p : Post F G1 H1 (τ env s) fun b s' => ∀ G' H', Ext F.reg G H G' H' → StG F G' σ H' env s' → Q b H') : tT F τ σ H1 Q :=
  ⟨G1, env, s, st, p.mono fun _ _ _ q G' H' e' => q G' H' (e.trans e')⟩
theorem tE_end {τ : Env → M S D} {G H G1 H1 : Hp} {σ : L2.St} {env : Env} {s : S} {Q : VK} (e : Ext F.reg G H G1 H1) (st : StG F G1 σ H1 env s) (p : Post F G1 H1 (τ env s) (K1 F G H σ env Q)) : tE F τ σ H1 Q :=
  ⟨G1, env, s, st, p.K1 e⟩
theorem dw_and {τ υ : Env → M S Bool} (ha : PT X a (tT F τ)) (hb : PW X (.BoolOp .And (b :: rest) pos) (tT F υ)) : PW X (.BoolOp .And (a :: b :: rest) pos) (tT F (andT τ υ)) :=
  pw_mono (pw_and ha hb) fun σ H Q ⟨G, env, s, st, p⟩ => by
    refine seqT st p fun k s1 G1 H1 e1 st1 p1 => ?_
    cases k with
    | true => rw [if_pos rfl]; exact tT_end e1 st1 p1
    | false => rw [if_neg Bool.false_ne_true]; exact p1 G1 H1 e1 st1
theorem dw_or {τ υ : Env → M S Bool} (ha : PT X a (tT F τ)) (hb : PW X (.BoolOp .Or (b :: rest) pos) (tT F υ)) : PW X (.BoolOp .Or (a :: b :: rest) pos) (tT F (orT τ υ)) :=
  pw_mono (pw_or ha hb) fun σ H Q ⟨G, env, s, st, p⟩ => by
    refine seqT st p fun k s1 G1 H1 e1 st1 p1 => ?_
    cases k with
    | true => rw [if_pos rfl]; exact p1 G1 H1 e1 st1
    | false => rw [if_neg Bool.false_ne_true]; exact tT_end e1 st1 p1
theorem dt_not {τ : Env → M S Bool} (ha : PT X a (tT F τ)) : PT X (.UnaryOp .Not a pos) (tT F (notT τ)) :=
  pt_mono (pt_not ha) fun σ H Q ⟨G, env, s, st, p⟩ => seqT st p fun k s1 G1 H1 e1 st1 p1 => p1 G1 H1 e1 st1
def iteE (t : Env → M S Bool) (τ υ : Env → M S D) : Env → M S D := fun env => do if ← t env then τ env else υ env
theorem de_if {t : Env → M S Bool} {τ υ : Env → M S D} (hc : PT X c (tT F t)) (ha : PE X a (tE F τ)) (hb : PE X b (tE F υ)) : PE X (.IfExp c a b pos) (tE F (iteE t τ υ)) :=
  pe_mono (pe_ifExp hc ha hb) fun σ H Q ⟨G, env, s, st, p⟩ => by
    refine seqT st p fun k s1 G1 H1 e1 st1 p1 => ?_
    cases k with
    | true => rw [if_pos rfl]; exact tE_end e1 st1 p1
    | false => rw [if_neg Bool.false_ne_true]; exact tE_end e1 st1 p1
/-- as values -/
def andV (τ υ : Env → M S D) : Env → M S D := fun env => do
  let x ← τ env
  if ← truD x then υ env else pure x
def orV (τ υ : Env → M S D) : Env → M S D := fun env => do
  let x ← τ env
  if ← truD x then pure x else υ env
def notV (τ : Env → M S D) : Env → M S D := fun env => do return .bl (!(← truD (← τ env)))
theorem de_one {τ : Env → M S D} (h : PE X a (tE F τ)) : PE X (.BoolOp op [a] pos) (tE F τ) := pe_one h
theorem de_and {τ υ : Env → M S D} (hK : X.K = F.K) (ha : PE X a (tE F τ)) (hb : PE X (.BoolOp .And (b :: rest) pos) (tE F υ)) : PE X (.BoolOp .And (a :: b :: rest) pos) (tE F (andV τ υ)) :=
  pe_mono (pe_andT ha hb) fun σ H Q ⟨G, env, s, st, p⟩ => by
    refine seqE st p fun d s1 v G1 H1 e1 st1 r1 p1 => ?_
    obtain ⟨k, hk, pk⟩ := tru_of st1.gd.gh r1 p1
    rw [hK]
    refine ⟨k, hk, ?_⟩
    cases k with
    | true => rw [if_pos rfl]; exact tE_end e1 st1 pk
    | false => rw [if_neg Bool.false_ne_true]; exact pk v G1 H1 e1 st1 r1
theorem de_not {τ : Env → M S D} (hK : X.K = F.K) (ha : PE X a (tE F τ)) : PE X (.UnaryOp .Not a pos) (tE F (notV τ)) :=
  pe_mono (pe_notT ha) fun σ H Q ⟨G, env, s, st, p⟩ => by
    refine seqE st p fun d s1 v G1 H1 e1 st1 r1 p1 => ?_
    obtain ⟨k, hk, pk⟩ := tru_of st1.gd.gh r1 p1
    rw [hK]
    exact ⟨k, hk, pk _ G1 H1 e1 st1 rfl⟩
/-! ### argument lists, displays -/
def aNil : Env → M S (List D) := fun _ => pure []
def aCons (τ : Env → M S D) (υ : Env → M S (List D)) : Env → M S (List D) := fun env => do
  let x ← τ env
  let xs ← υ env
  pure (x :: xs)
theorem da_nil : PA X [] (tA F aNil) := pa_mono pa_nil fun σ H Q ⟨G, env, s, st, p⟩ => p [] G H (Ext.refl _ _ _) st rfl
theorem da_cons {e : Expr} {es : List Expr} {τ : Env → M S D} {υ : Env → M S (List D)} (ha : PE X e (tE F τ)) (hr : PA X es (tA F υ)) (hs : starEach (e :: es) X.env = (false, eval e X.env) :: starEach es X.env := by rfl) : PA X (e :: es) (tA F (aCons τ υ)) :=
  pa_mono (pa_cons ha hr hs) fun σ H Q ⟨G, env, s, st, p⟩ => by
    refine seqE st p fun d s1 v G1 H1 e1 st1 r1 p1 => ?_
    refine seqA st1 p1 fun ds s2 vs G2 H2 e2 st2 r2 p2 => ?_
    exact p2 (v :: vs) G2 H2 (e1.trans e2) st2 (RepL.cons (r1.mono e2.g) r2)
theorem StG.new {G H : Hp} {σ : L2.St} {env : Env} {s : S} (st : StG F G σ H env s) {p : Addr} (n : H p = none) (o : HO) (ho : NoTbl o := by intro _ h; cases h) : Ext F.reg G H (upd G p o) (upd H p o) ∧ StG F (upd G p o) σ (upd H p o) env s := by
  obtain ⟨g, e⟩ := st.gd.new n o ho
  exact ⟨e, st.ext' e g⟩
def lstD (τ : Env → M S (List D)) : Env → M S D := fun env => do
  let xs ← τ env
  grd (xs.length ≤ sizeLine) (pure (.lst xs))
def tupD (τ : Env → M S (List D)) : Env → M S D := fun env => do
  let xs ← τ env
  grd (xs.length ≤ sizeLine) (pure (.tup xs))
theorem SqT.upd {K : PySem.W.Frag} {G : Hp} {p : Addr} {vs : List V} : SqT K (upd G p (.tup vs)) p vs := .inl (.inl upd_same)
theorem de_lst {es : List Expr} {τ : Env → M S (List D)} (h : PA X es (tA F τ)) : PE X (.List es pos) (tE F (lstD τ)) :=
  pe_mono (pe_lst h) fun σ H Q ⟨G, env, s, st, p⟩ => by
    refine seqA st p fun ds s1 vs G1 H1 e1 st1 r1 p1 => ?_
    obtain ⟨hl, p2⟩ := Post.grd p1
    have hz : vs.length ≤ sizeLine := by rw [r1.length]; exact hl
    refine ⟨hz, fun q nq => ?_⟩
    obtain ⟨e2, st2⟩ := st1.new nq (.lst vs)
    exact p2 _ _ _ (e1.trans e2) st2 ⟨q, vs, rfl, upd_same, hz, r1.mono e2.g⟩
theorem de_tup {es : List Expr} {τ : Env → M S (List D)} {x1} (h : PA X es (tA F τ)) : PE X (.Tuple es x1 pos) (tE F (tupD τ)) :=
  pe_mono (pe_tup h) fun σ H Q ⟨G, env, s, st, p⟩ => by
    refine seqA st p fun ds s1 vs G1 H1 e1 st1 r1 p1 => ?_
    obtain ⟨hl, p2⟩ := Post.grd p1
    have hz : vs.length ≤ sizeLine := by rw [r1.length]; exact hl
    refine ⟨hz, fun q nq => ?_⟩
    obtain ⟨e2, st2⟩ := st1.new nq (.tup vs)
    exact p2 _ _ _ (e1.trans e2) st2 ⟨q, vs, rfl, SqT.upd, hz, r1.mono e2.g⟩
end DL
set_option Elab.async false
set_option linter.all false
set_option maxRecDepth 100000
set_option maxHeartbeats 4000000
set_option autoImplicit false
namespace DL
open PySem PySem.Spec PyProof.Rows L2
variable {S : Type} {X : Cx} {F : Fx S}
/-! ### a name's slot -/
theorem isOwn_set {env : Env} {i j : Nat} {d : D} (h : isOwn (env.set i (some (.val d)))[j]?) : isOwn env[j]? ∧ j ≠ i := by
  by_cases e : i = j
  · subst e
    by_cases hl : i < env.length
    · rw [List.getElem?_set_self hl] at h; exact h.elim
    · rw [List.set_eq_of_length_le (by omega)] at h
      rw [List.getElem?_eq_none (by omega)] at h
      exact h.elim
  · rw [List.getElem?_set_ne e] at h
    exact ⟨h, fun z => e z.symm⟩
theorem RepEnv.set {G H : Hp} {σ : L2.St} {env : Env} {d : D} {v : V} (i : Nat) (h : RepEnv F G H σ env) (r : Rep F.toCc G d v) : RepEnv F G H (σ.set i (some v)) (env.set i (some (.val d))) where
  len := by rw [List.length_set, List.length_set]; exact h.len
  at_ := fun j sl e => by
    by_cases q : i = j
    · subst q
      have hl : i < env.length := by
        by_cases hl : i < env.length
        · exact hl
        · rw [List.set_eq_of_length_le (by omega), List.getElem?_eq_none (by omega)] at e; cases e
      rw [List.getElem?_set_self hl] at e
      cases e
      exact ⟨some v, List.getElem?_set_self (by rw [h.len]; exact hl), v, rfl, r⟩
    · rw [List.getElem?_set_ne q] at e ⊢
      exact h.at_ j sl e
  apart := fun a b n ha hb => by
    obtain ⟨ha, na⟩ := isOwn_set ha
    obtain ⟨hb, nb⟩ := isOwn_set hb
    rw [List.getElem?_set_ne (fun z => na z.symm), List.getElem?_set_ne (fun z => nb z.symm)]
    exact h.apart a b n ha hb
theorem StG.set {G H : Hp} {σ : L2.St} {env : Env} {s : S} {d : D} {v : V} (i : Nat) (st : StG F G σ H env s) (r : Rep F.toCc G d v) : StG F G (σ.set i (some v)) H (env.set i (some (.val d))) s :=
  ⟨st.ext, st.gd, st.env_.set i r⟩
/-- a slot forgotten -/
theorem RepEnv.drop {G H : Hp} {σ : L2.St} {env : Env} (i : Nat) (h : RepEnv F G H σ env) (o : Option V) : RepEnv F G H (σ.set i o) (env.set i none) where
  len := by rw [List.length_set, List.length_set]; exact h.len
  at_ := fun j sl e => by
    by_cases q : i = j
    · subst q
      have hl : i < env.length := by
        by_cases hl : i < env.length
        · exact hl
        · rw [List.set_eq_of_length_le (by omega), List.getElem?_eq_none (by omega)] at e; cases e
      rw [List.getElem?_set_self hl] at e
      cases e
      exact ⟨o, List.getElem?_set_self (by rw [h.len]; exact hl), trivial⟩
    · rw [List.getElem?_set_ne q] at e ⊢
      exact h.at_ j sl e
  apart := fun a b n ha hb => by
    have t : ∀ j, isOwn (env.set i none)[j]? → isOwn env[j]? ∧ i ≠ j := fun j h => by
      by_cases e : i = j
      · subst e
        by_cases hl : i < env.length
        · rw [List.getElem?_set_self hl] at h; exact h.elim
        · rw [List.set_eq_of_length_le (by omega)] at h
          rw [List.getElem?_eq_none (by omega)] at h
          exact h.elim
      · rw [List.getElem?_set_ne e] at h
        exact ⟨h, e⟩
    obtain ⟨ha, na⟩ := t a ha
    obtain ⟨hb, nb⟩ := t b hb
    rw [List.getElem?_set_ne na, List.getElem?_set_ne nb]
    exact h.apart a b n ha hb
/-! ### targets -/
def tG (F : Fx S) (γ : D → Env → M S Env) : TG := fun v σ H Q => ∃ G env s d, StG F G σ H env s ∧ Rep F.toCc G d v ∧
  Post F G H (γ d env s) fun env' s' => ∀ σ' G' H', Same G G' → StG F G' σ' H' env' s' → Q σ' H'
def tGs (F : Fx S) (γ : List D → Env → M S Env) : TGs := fun vs σ H Q => ∃ G env s ds, StG F G σ H env s ∧ RepL F.toCc G ds vs ∧
  Post F G H (γ ds env s) fun env' s' => ∀ σ' G' H', Same G G' → StG F G' σ' H' env' s' → Q σ' H'
theorem pg_mono {tg : Expr} {t t' : TG} (h : PG X tg t) (m : ∀ v σ H Q, t' v σ H Q → t v σ H Q) : PG X tg t' := ⟨fun pins s σ H v u Q I r q => h.run pins s σ H v u Q I r (m v σ H Q q)⟩
theorem pgs_mono {tg : List Expr} {t t' : TGs} (h : PGs X tg t) (m : ∀ v σ H Q, t' v σ H Q → t v σ H Q) : PGs X tg t' := ⟨fun pins s σ H v u Q I r q => h.run pins s σ H v u Q I r (m v σ H Q q)⟩
def gNm (i : Nat) : D → Env → M S Env := fun d env => pure (env.set i (some (.val d)))
theorem dg_name (i : Nat) {tg : Expr} (h : PG X tg (gName i)) : PG X tg (tG F (gNm i)) := pg_mono h fun v σ H Q ⟨G, env, s, d, st, r, p⟩ => p _ G H (Same.refl _) (st.set i r)
def gsNil : List D → Env → M S Env := fun ds env => match ds with
  | [] => pure env
  | _ => stk
def gsCons (γ : D → Env → M S Env) (δ : List D → Env → M S Env) : List D → Env → M S Env := fun ds env => match ds with
  | [] => stk
  | d :: ds => do δ ds (← γ d env)
theorem dgs_nil : PGs X [] (tGs F gsNil) := pgs_mono pgs_nil fun vs σ H Q ⟨G, env, s, ds, st, r, p⟩ => by
  cases ds with
  | nil => exact ⟨r, p σ G H (Same.refl _) st⟩
  | cons d ds => exact p.elim
theorem dgs_cons {e : Expr} {es : List Expr} {γ : D → Env → M S Env} {δ : List D → Env → M S Env} (h1 : PG X e (tG F γ)) (h2 : PGs X es (tGs F δ))
    (hs : (assignEach (e :: es) X.env).map (·.2) = assign e X.env :: (assignEach es X.env).map (·.2) := by rfl) : PGs X (e :: es) (tGs F (gsCons γ δ)) := pgs_mono (pgs_cons h1 h2 hs) fun vs σ H Q ⟨G, env, s, ds, st, r, p⟩ => by
  cases ds with
  | nil => exact p.elim
  | cons d ds =>
    obtain ⟨v, vr, e, ra, rb⟩ := r
    exact ⟨v, vr, e, G, env, s, d, st, ra, Post.mono (Post.bind p) fun env' s' _ hk σ' G' H' e' st' => ⟨G', env', s', ds, st', rb.mono e', (hk.later e').mono fun _ _ _ q σ2 G2 H2 e2 => q σ2 G2 H2 (e'.trans e2)⟩⟩
theorem pg_or {tg : Expr} {t t' : TG} (h : PG X tg t) (h' : PG X tg t') : PG X tg (fun v σ H Q => t v σ H Q ∨ t' v σ H Q) := ⟨fun pins s σ H v u Q I r q => q.elim (h.run pins s σ H v u Q I r) (h'.run pins s σ H v u Q I r)⟩
def gTp (n : Nat) (δ : List D → Env → M S Env) : D → Env → M S Env := fun d env => match d with
  | .tup ds => grd (ds.length = n) (δ ds env)
  | .lst ds => grd (ds.length = n) (δ ds env)
  | _ => stk
theorem dg_tup {es : List Expr} {k n : Nat} {δ : List D → Env → M S Env} {pos : Pos} (hK : X.K = F.K) (hc : X.calm = true) (h : PGs X es (tGs F δ)) (hn : (assignEach es X.env).length = n := by rfl) (hst : (assignEach es X.env).findIdx? (·.1) = none := by rfl) :
    PG X (.Tuple es k pos) (tG F (gTp n δ)) := pg_mono (pg_or (pg_tup hc h hn hst) (pg_unl hc h hn hst)) fun v σ H Q ⟨G, env, s, d, st, r, p⟩ => by
  cases d with
  | tup ds =>
    obtain ⟨a, vs, e, q, z, rl⟩ := r
    obtain ⟨hl, p⟩ := Post.grd p
    exact .inl ⟨a, vs, e, hK ▸ SqT.sub st.gd.gh q, by rw [rl.length]; exact hl, G, env, s, ds, st, rl, p⟩
  | lst ds =>
    obtain ⟨a, vs, e, q, z, rl⟩ := r
    obtain ⟨hl, p⟩ := Post.grd p
    exact .inr ⟨a, vs, e, .inl (.inl (st.gd.gh _ _ q)), by rw [rl.length]; exact hl, G, env, s, ds, st, rl, p⟩
  | _ => exact p.elim
/-! ### statements -/
def sNx : Env → M S Flw := fun env => pure (.nx env)
def sBk : Env → M S Flw := fun env => pure (.bk env)
def sCt : Env → M S Flw := fun env => pure (.ct env)
def sSeq (τ υ : Env → M S Flw) : Env → M S Flw := fun env => do
  match ← τ env with
  | .nx e => υ e
  | f => pure f
def sRet (τ : Env → M S D) : Env → M S Flw := fun env => do return .rt (← τ env)
def sDrop (τ : Env → M S D) : Env → M S Flw := fun env => do
  let _ ← τ env
  pure (.nx env)
def sAsg (τ : Env → M S D) (γ : D → Env → M S Env) : Env → M S Flw := fun env => do
  let d ← τ env
  return .nx (← γ d env)
def sIf (t : Env → M S Bool) (τ υ : Env → M S Flw) : Env → M S Flw := fun env => do if ← t env then τ env else υ env
def sNo : Env → M S Flw := fun _ => stk
variable {st : Stmt} {sts : List Stmt} {pos : Pos}
theorem dss_nil : PSs X [] (tS F sNx) := pss_mono pss_nil fun D σ H ⟨G, env, s, st, p⟩ => p σ G H (Same.refl _) st
theorem dss_one {τ : Env → M S Flw} (h : PS X st (tS F τ)) : PSs X [st] (tS F τ) := pss_one h
theorem tSeq_of {τ υ : Env → M S Flw} (D : Ends) (σ : L2.St) (H : Hp) (h : tS F (sSeq τ υ) D σ H) : tSeq (tS F τ) (tS F υ) D σ H := by
  obtain ⟨G, env, s, st, p⟩ := h
  refine ⟨G, env, s, st, Post.mono (Post.bind p) fun fl s1 _ hk => ?_⟩
  cases fl with
  | nx e => exact fun σ' G' H' e' st' => ⟨G', e, s1, st', (hk.later e').mono fun _ _ _ q => q.later e'⟩
  | rt d => exact hk
  | bk e => exact hk
  | ct e => exact hk
theorem dss_cons {τ υ : Env → M S Flw} (h1 : PS X st (tS F τ)) (h2 : PSs X sts (tS F υ)) : PSs X (st :: sts) (tS F (sSeq τ υ)) := pss_mono (pss_cons h1 h2) tSeq_of
theorem ds_ret {e : Expr} {τ : Env → M S D} (he : PE X e (tE F τ)) : PS X (.Return (some e) pos) (tS F (sRet τ)) := ps_mono (ps_ret he) fun D σ H ⟨G, env, s, st, p⟩ =>
  seqE st p fun d s1 v G1 H1 e1 st1 r1 p1 => p1 v G1 H1 e1.g st1.ext st1.gd r1
def sRetN : Env → M S Flw := fun _ => pure (.rt .non)
theorem ds_expr {e : Expr} {τ : Env → M S D} (he : PE X e (tE F τ)) (hs : swapsWith e none pos.line X.env = pure false := by rfl) : PS X (.Expr e pos) (tS F (sDrop τ)) := ps_mono (ps_expr he hs) fun D σ H ⟨G, env, s, st, p⟩ =>
  seqE st p fun d s1 v G1 H1 e1 st1 r1 p1 => p1 σ G1 H1 e1.g st1
theorem ds_asg {tg e : Expr} {τ : Env → M S D} {γ : D → Env → M S Env} (he : PE X e (tE F τ)) (hg : PG X tg (tG F γ)) (hs : swapsWithSole [tg] e pos.line X.env = pure false := by rfl) (hw : swappedStores [tg] e X.env = pure none := by rfl)
    (h1 : (assignEach [tg] X.env).map (·.2) = [assign tg X.env] := by rfl) : PS X (.Assign [tg] e pos) (tS F (sAsg τ γ)) := ps_mono (ps_asg he hg hs hw h1) fun D σ H ⟨G, env, s, st, p⟩ =>
  seqE st p fun d s1 v G1 H1 e1 st1 r1 p1 => ⟨G1, env, s1, d, st1, r1, Post.mono (Post.bind p1) fun env' s2 _ hk σ' G' H' e' st' => hk σ' G' H' (e1.g.trans e') st'⟩
def sPar (i j : Nat) (τ : Env → M S (List D)) : Env → M S Flw := fun env => do
  match ← τ env with
  | [x, y] => pure (.nx ((env.set i (some (.val x))).set j (some (.val y))))
  | _ => stk
theorem ds_par {i j : Nat} {x y : Str} {a b : Expr} {τ : Env → M S (List D)} {px py pt : Pos} {kt k2 pt2} (hc : X.calm = true) (hN : X.N.Nodup) (hi : X.N[i]? = some x) (hj : X.N[j]? = some y) (hij : i ≠ j)
    (hx : X.env.scope.names.lookup x = some .local) (hy : X.env.scope.names.lookup y = some .local) (ha : PA X [a, b] (tA F τ))
    (hw : swappedStores [.Tuple [.Name x px, .Name y py] kt pt] (.Tuple [a, b] k2 pt2) X.env = pure (some [x, y]))
    (hs : swapsWithSole [.Tuple [.Name x px, .Name y py] kt pt] (.Tuple [a, b] k2 pt2) pos.line X.env = pure false := by rfl) :
    PS X (.Assign [.Tuple [.Name x px, .Name y py] kt pt] (.Tuple [a, b] k2 pt2) pos) (tS F (sPar i j τ)) := ps_mono (ps_par hc hN hi hj hij hx hy ha hw hs) fun D σ H ⟨G, env, s, st, p⟩ => by
  refine seqA st p fun ds s1 vs G1 H1 e1 st1 r1 p1 => ?_
  match ds, p1, r1 with
  | [x, y], p1, ⟨v, _, e, ra, w, _, e', rb, e''⟩ =>
    subst e e' e''
    exact ⟨v, w, rfl, p1 _ G1 H1 e1.g ((st1.set i ra).set j rb)⟩
  | [], p1, _ => exact p1.elim
  | [_], p1, _ => exact p1.elim
  | _ :: _ :: _ :: _, p1, _ => exact p1.elim
theorem ds_if {c : Expr} {a b : List Stmt} {t : Env → M S Bool} {τ υ : Env → M S Flw} (hc : PT X c (tT F t)) (ha : PSs X a (tS F τ)) (hb : PSs X b (tS F υ)) : PS X (.If c a b pos) (tS F (sIf t τ υ)) := ps_mono (ps_if hc ha hb) fun D σ H ⟨G, env, s, st, p⟩ => by
  refine seqT st p fun k s1 G1 H1 e1 st1 p1 => ?_
  cases k with
  | true => rw [if_pos rfl]; exact ⟨G1, env, s1, st1, Post.mono p1 fun _ _ _ q => q.later e1.g⟩
  | false => rw [if_neg Bool.false_ne_true]; exact ⟨G1, env, s1, st1, Post.mono p1 fun _ _ _ q => q.later e1.g⟩
/-! ### while -/
def whl (c : Env → M S Bool) (b : Env → M S Flw) : Nat → Env → M S Flw
  | 0, _ => stk
  | n + 1, env => do
    if ← c env then
      match ← b env with
      | .nx e => whl c b n e
      | .ct e => whl c b n e
      | .bk e => pure (.nx e)
      | .rt d => pure (.rt d)
    else pure (.nx env)
theorem whl_mono {c : Env → M S Bool} {b : Env → M S Flw} : ∀ (n : Nat) (env : Env) (s : S), whl c b n env s ≠ .stk → whl c b (n + 1) env s = whl c b n env s
  | 0, env, s, h => absurd rfl h
  | n + 1, env, s, h => by
    have ih := whl_mono (c := c) (b := b) n
    show ((c env s).bind _) = ((c env s).bind _)
    have h : ((c env s).bind _) ≠ .stk := h
    cases q : c env s with
    | ok k s1 =>
      rw [q] at h
      cases k with
      | false => rfl
      | true =>
        show ((b env s1).bind _) = ((b env s1).bind _)
        have h : ((b env s1).bind _) ≠ .stk := h
        cases q2 : b env s1 with
        | ok fl s2 =>
          rw [q2] at h
          cases fl with
          | nx e => exact ih e s2 h
          | ct e => exact ih e s2 h
          | bk e => rfl
          | rt d => rfl
        | err x s2 => rfl
        | stk => rfl
    | err x s1 => rfl
    | stk => rfl
theorem whl_le {c : Env → M S Bool} {b : Env → M S Flw} {n m : Nat} (hm : n ≤ m) {env : Env} {s : S} (h : whl c b n env s ≠ .stk) : whl c b m env s = whl c b n env s := by
  induction hm with
  | refl => rfl
  | step _ ih => rw [whl_mono _ env s (by rw [ih]; exact h), ih]
open Classical in
/-- while c: b -/
noncomputable def sWhl (c : Env → M S Bool) (b : Env → M S Flw) : Env → M S Flw := fun env s => if h : ∃ n, whl c b n env s ≠ .stk then whl c b h.choose env s else .stk
theorem sWhl_of {c : Env → M S Bool} {b : Env → M S Flw} (n : Nat) {env : Env} {s : S} (h : whl c b n env s ≠ .stk) : sWhl c b env s = whl c b n env s := by
  have hx : ∃ n, whl c b n env s ≠ .stk := ⟨n, h⟩
  unfold sWhl
  rw [dif_pos hx]
  rcases Nat.le_total n hx.choose with l | l
  · exact whl_le l h
  · exact (whl_le l hx.choose_spec).symm
/-- one turn -/
theorem sWhl_eq (c : Env → M S Bool) (b : Env → M S Flw) (env : Env) (s : S) : sWhl c b env s = ((do
    if ← c env then
      match ← b env with
      | .nx e => sWhl c b e
      | .ct e => sWhl c b e
      | .bk e => pure (.nx e)
      | .rt d => pure (.rt d)
    else pure (.nx env) : M S Flw) s) := by
  by_cases hx : ∃ n, whl c b n env s ≠ .stk
  · obtain ⟨n, h⟩ := hx
    rw [sWhl_of n h]
    cases n with
    | zero => exact absurd rfl h
    | succ n =>
      show ((c env s).bind _) = ((c env s).bind _)
      have h : ((c env s).bind _) ≠ .stk := h
      cases q : c env s with
      | ok k s1 =>
        rw [q] at h
        cases k with
        | false => rfl
        | true =>
          show ((b env s1).bind _) = ((b env s1).bind _)
          have h : ((b env s1).bind _) ≠ .stk := h
          cases q2 : b env s1 with
          | ok fl s2 =>
            rw [q2] at h
            cases fl with
            | nx e => exact (sWhl_of n (env := e) (s := s2) h).symm
            | ct e => exact (sWhl_of n (env := e) (s := s2) h).symm
            | bk e => rfl
            | rt d => rfl
          | err x s2 => rfl
          | stk => rfl
      | err x s1 => rfl
      | stk => rfl
  · have e : sWhl c b env s = .stk := by unfold sWhl; rw [dif_neg hx]
    rw [e]
    have all : ∀ n, whl c b n env s = .stk := fun n => Classical.byContradiction fun z => hx ⟨n, z⟩
    have a1 : ∀ n, ((c env s).bind fun k s' => (if k = true then (do
      match ← b env with
      | .nx e => whl c b n e
      | .ct e => whl c b n e
      | .bk e => pure (.nx e)
      | .rt d => pure (.rt d)) else pure (.nx env) : M S Flw) s') = .stk := fun n => all (n + 1)
    show Res.stk = ((c env s).bind _)
    cases q : c env s with
    | ok k s1 =>
      simp only [q] at a1
      cases k with
      | false => exact nomatch (a1 0)
      | true =>
        show Res.stk = ((b env s1).bind _)
        have a2 : ∀ n, ((b env s1).bind fun f s' => (match f with
          | .nx e => whl c b n e
          | .ct e => whl c b n e
          | .bk e => pure (.nx e)
          | .rt d => pure (.rt d) : M S Flw) s') = .stk := a1
        cases q2 : b env s1 with
        | ok fl s2 =>
          simp only [q2] at a2
          cases fl with
          | nx e =>
            show Res.stk = sWhl c b e s2
            unfold sWhl
            rw [dif_neg (fun ⟨n, z⟩ => z (a2 n))]
          | ct e =>
            show Res.stk = sWhl c b e s2
            unfold sWhl
            rw [dif_neg (fun ⟨n, z⟩ => z (a2 n))]
          | bk e => exact nomatch (a2 0)
          | rt d => exact nomatch (a2 0)
        | err x s2 => simp only [q2] at a2; exact nomatch (a2 0)
        | stk => rfl
    | err x s1 => simp only [q] at a1; exact nomatch (a1 0)
    | stk => rfl
theorem ds_while {c : Expr} {body : List Stmt} {t : Env → M S Bool} {τ : Env → M S Flw} (hp : PassesOwn (model X.prog X.w) X.A X.env X.xe) (hc : PT X c (tT F t)) (hb : PSs X body (tS F τ)) : PS X (.While c body [] pos) (tS F (sWhl t τ)) := ps_mono (ps_while hp hc hb) fun D σ H ⟨G, env, s, st, p⟩ => by
  have hx : ∃ n, whl t τ n env s ≠ .stk := Classical.byContradiction fun z => by
    unfold sWhl at p
    rw [dif_neg z] at p
    exact p
  obtain ⟨n, hn⟩ := hx
  rw [sWhl_of n hn] at p
  refine ⟨fun m σ H => ∃ G env s, StG F G σ H env s ∧ Post F G H (whl t τ m env s) (FP F G D), ⟨n, G, env, s, st, p⟩, ?_⟩
  rintro m σ H ⟨G, env, s, st, p⟩
  cases m with
  | zero => exact p.elim
  | succ m =>
    refine seqT st p fun k s1 G1 H1 e1 st1 p1 => ?_
    cases k with
    | false => rw [if_neg Bool.false_ne_true]; exact p1 σ G1 H1 e1.g st1
    | true =>
      rw [if_pos rfl]
      refine ⟨fun σ' H' => ∃ G env s, StG F G σ' H' env s ∧ Post F G H' (whl t τ m env s) (FP F G D), fun σ' H' h => ⟨m, Nat.lt_succ_self m, h⟩, ?_⟩
      refine ⟨G1, env, s1, st1, Post.mono (Post.bind p1) fun fl s2 _ hk => ?_⟩
      cases fl with
      | nx e => exact fun σ' G' H' e' st' => ⟨G', e, s2, st', (hk.later e').mono fun _ _ _ q => q.later (e1.g.trans e')⟩
      | ct e => exact fun σ' G' H' e' st' => ⟨G', e, s2, st', (hk.later e').mono fun _ _ _ q => q.later (e1.g.trans e')⟩
      | bk e => exact fun σ' G' H' e' st' => hk σ' G' H' (e1.g.trans e') st'
      | rt d => exact fun v G' H' e' => hk v G' H' (e1.g.trans e')
/-! ### what is walked -/
def ItD (F : Fx S) (G : Hp) (J : It) (ds : List D) : Prop := ∀ G' H' s, Same G G' → Gd F.toCc G' H' s →
  (∀ (i : Nat) (d : D), ds[i]? = some d → J.go i H' ∧ ∀ x H2, J.yld i H' x H2 → ∃ G2, Ext F.reg G' H' G2 H2 ∧ Gd F.toCc G2 H2 s ∧ Rep F.toCc G2 d x) ∧ (∀ i, ds.length ≤ i → J.stop i H')
def tI (F : Fx S) (ι : Env → M S (List D)) : TI := fun σ H R => ∃ G env s, StG F G σ H env s ∧
  Post F G H (ι env s) fun ds s' => ∀ J G' H', Ext F.reg G H G' H' → StG F G' σ H' env s' → ItD F G' J ds → R J H'
theorem pi_mono {tg e : Expr} {t t' : TI} (h : PI X tg e t) (m : ∀ σ H R, t' σ H R → t σ H R) : PI X tg e t' := ⟨fun pins s σ H R I q => h.run pins s σ H R I (m σ H R q)⟩
theorem pi_or {tg e : Expr} {t t' : TI} (h : PI X tg e t) (h' : PI X tg e t') : PI X tg e (fun σ H R => t σ H R ∨ t' σ H R) := ⟨fun pins s σ H R I q => q.elim (h.run pins s σ H R I) (h'.run pins s σ H R I)⟩
def iSq (τ : Env → M S D) : Env → M S (List D) := fun env => do
  match ← τ env with
  | .lst ds => pure ds
  | .tup ds => pure ds
  | .scr ns => pure (ns.map .int)
  | _ => stk
theorem itd_list {G : Hp} {a : Addr} {vs : List V} {ds : List D} (q0 : G a = some (.lst vs)) (r : RepL F.toCc G ds vs) : ItD F G (Itl F.K a) ds := fun G' H' s e g => by
  have q' : SqL F.K H' a vs := .inl (.inl (g.gh _ _ (e _ _ q0)))
  refine ⟨fun i d hd => ?_, fun i hi => ⟨vs, q', by rw [r.length]; exact hi⟩⟩
  obtain ⟨v, hv, rv⟩ := r.get hd
  refine ⟨⟨vs, v, q', hv⟩, fun x H2 y => ?_⟩
  obtain ⟨rfl, y⟩ := y
  have z := y vs q'
  rw [hv] at z
  cases z
  exact ⟨G', Ext.refl _ _ _, g, rv.mono e⟩
theorem itd_scr {G : Hp} {a : Addr} {ns : List Int} (q : SqL F.K G a (ns.map V.int)) : ItD F G (Itl F.K a) (ns.map D.int) := fun G' H' s e g => by
  have q' : SqL F.K H' a (ns.map V.int) := g.gh.seq (e.seq q)
  refine ⟨fun i d hd => ?_, fun i hi => ⟨_, q', by rw [List.length_map] at hi ⊢; exact hi⟩⟩
  rw [List.getElem?_map] at hd
  obtain ⟨n, hn, rfl⟩ := Option.map_eq_some_iff.mp hd
  have hv : (ns.map V.int)[i]? = some (.int n) := by rw [List.getElem?_map, hn]; rfl
  refine ⟨⟨_, _, q', hv⟩, fun x H2 y => ?_⟩
  obtain ⟨rfl, y⟩ := y
  have z := y _ q'
  rw [hv] at z
  cases z
  exact ⟨G', Ext.refl _ _ _, g, rfl⟩
theorem itd_tup {G : Hp} {a : Addr} {vs : List V} {ds : List D} (q : SqT F.K G a vs) (r : RepL F.toCc G ds vs) : ItD F G (Itt F.K a) ds := fun G' H' s e g => by
  have q' : SqT F.K H' a vs := SqT.sub g.gh (SqT.sub e q)
  refine ⟨fun i d hd => ?_, fun i hi => ⟨vs, q', by rw [r.length]; exact hi⟩⟩
  obtain ⟨v, hv, rv⟩ := r.get hd
  refine ⟨⟨vs, v, q', hv⟩, fun x H2 y => ?_⟩
  obtain ⟨rfl, y⟩ := y
  have z := y vs q'
  rw [hv] at z
  cases z
  exact ⟨G', Ext.refl _ _ _, g, rv.mono e⟩
theorem di_seq {tg l : Expr} {τ : Env → M S D} (hK : X.K = F.K) (hl : PE X l (tE F τ)) : PI X tg l (tI F (iSq τ)) := pi_mono (pi_or (pi_list hl) (pi_tup hl)) fun σ H R ⟨G, env, s, st, p⟩ => by
  have p : Post F G H ((τ env s).bind fun d s' => (match d with
    | .lst ds => pure ds
    | .tup ds => pure ds
    | .scr ns => pure (ns.map .int)
    | _ => stk : M S (List D)) s') _ := p
  cases q : τ env s with
  | stk => rw [q] at p; exact p.elim
  | err x s1 => rw [q] at p; exact .inl ⟨G, env, s, st, by rw [q]; exact p⟩
  | ok d s1 =>
    rw [q] at p
    cases d with
    | lst ds =>
      refine .inl ⟨G, env, s, st, ?_⟩
      rw [q]
      rintro v G' H' e' st' ⟨a, vs, rfl, hq, hz, r⟩
      exact ⟨a, rfl, ⟨vs, .inl (.inl (st'.gd.gh _ _ hq))⟩, p _ G' H' e' st' (hK ▸ itd_list hq r)⟩
    | tup ds =>
      refine .inr ⟨G, env, s, st, ?_⟩
      rw [q]
      rintro v G' H' e' st' ⟨a, vs, rfl, hq, hz, r⟩
      exact ⟨a, rfl, ⟨vs, hK ▸ SqT.sub st'.gd.gh hq⟩, p _ G' H' e' st' (hK ▸ itd_tup hq r)⟩
    | scr ns =>
      refine .inl ⟨G, env, s, st, ?_⟩
      rw [q]
      rintro v G' H' e' st' ⟨a, rfl, hq⟩
      exact ⟨a, rfl, ⟨_, hK ▸ st'.gd.gh.seq hq⟩, p _ G' H' e' st' (hK ▸ itd_scr hq)⟩
    | _ => exact p.elim
def rngD (lo hi : Int) : List D := (List.range (hi - lo).toNat).map fun (i : Nat) => .int (lo + i)
theorem rngD_length (lo hi : Int) : (rngD lo hi).length = (hi - lo).toNat := by unfold rngD; rw [List.length_map, List.length_range]
theorem itd_rng {G : Hp} (lo hi : Int) : ItD F G (Itr lo (hi - lo).toNat) (rngD lo hi) := fun G' H' s e g => by
  refine ⟨fun i d hd => ?_, fun i h => by rw [rngD_length] at h; exact h⟩
  have hi' : i < (hi - lo).toNat := by rw [← rngD_length]; exact (List.getElem?_eq_some_iff.mp hd).1
  refine ⟨hi', fun x H2 y => ?_⟩
  obtain ⟨rfl, rfl⟩ := y
  unfold rngD at hd
  rw [List.getElem?_map, List.getElem?_range hi'] at hd
  cases hd
  exact ⟨G', Ext.refl _ _ _, g, rfl⟩
def iR1 (τ : Env → M S (List D)) : Env → M S (List D) := fun env => do
  match ← τ env with
  | [.int j] => grd (-(2 ^ 62) ≤ j ∧ j < 2 ^ 62) (pure (rngD 0 j))
  | _ => stk
theorem di_range1 {tg a : Expr} {τ : Env → M S (List D)} {p pos : Pos} (hg : Gl X "range") (hm : X.mg "range" = none) (ha : PA X [a] (tA F τ)) (hs : starEach [a] X.env = [(false, eval a X.env)] := by rfl) : PI X tg (.Call (.Name "range" p) [a] [] pos) (tI F (iR1 τ)) :=
  pi_mono (pi_range1 hg hm ha hs) fun σ H R ⟨G, env, s, st, p⟩ => by
    refine seqA st p fun ds s1 vs G1 H1 e1 st1 r1 p1 => ?_
    match ds, p1, r1 with
    | [.int j], p1, ⟨_, _, e, rfl, e'⟩ =>
      subst e e'
      obtain ⟨h, p2⟩ := Post.grd p1
      refine ⟨j, rfl, h.1, h.2, p2 _ G1 H1 e1 st1 ?_⟩
      have := itd_rng (F := F) (G := G1) 0 j
      simpa using this
    | [], p1, _ => exact p1.elim
    | .non :: _, p1, _ => exact p1.elim
    | .bl _ :: _, p1, _ => exact p1.elim
    | .str _ :: _, p1, _ => exact p1.elim
    | .lst _ :: _, p1, _ => exact p1.elim
    | .tup _ :: _, p1, _ => exact p1.elim
    | .dct _ :: _, p1, _ => exact p1.elim
    | .ins _ _ :: _, p1, _ => exact p1.elim
    | .exc _ _ :: _, p1, _ => exact p1.elim
    | .hnd _ :: _, p1, _ => exact p1.elim
    | .dks _ :: _, p1, _ => exact p1.elim
    | .fn _ :: _, p1, _ => exact p1.elim
    | .adr _ _ :: _, p1, _ => exact p1.elim
    | .rps _ :: _, p1, _ => exact p1.elim
    | .scr _ :: _, p1, _ => exact p1.elim
    | .int _ :: _ :: _, p1, _ => exact p1.elim
end DL
set_option Elab.async false
set_option linter.all false
set_option maxRecDepth 100000
set_option maxHeartbeats 4000000
set_option autoImplicit false
namespace DL
open PySem PySem.Spec PyProof.Rows L2
variable {S : Type} {X : Cx} {F : Fx S}
/-! ### forms of data, forms of arguments -/
section
variable {α : Type}
def onInt (k : Int → M S α) : D → M S α
  | .int i => k i
  | _ => stk
def onBl (k : Bool → M S α) : D → M S α
  | .bl i => k i
  | _ => stk
def onLst (k : List D → M S α) : D → M S α
  | .lst i => k i
  | _ => stk
def onTup (k : List D → M S α) : D → M S α
  | .tup i => k i
  | _ => stk
def onSeq (k : List D → M S α) : D → M S α
  | .lst i => k i
  | .tup i => k i
  | _ => stk
def onIns (k : Str → List (Str × D) → M S α) : D → M S α
  | .ins c fs => k c fs
  | _ => stk
def a1 (k : D → M S α) : List D → M S α
  | [d] => k d
  | _ => stk
def a2 (k : D → D → M S α) : List D → M S α
  | [d, e] => k d e
  | _ => stk
def a3 (k : D → D → D → M S α) : List D → M S α
  | [d, e, f] => k d e f
  | _ => stk
variable {G H : Hp} {s : S} {P : α → S → Prop}
theorem Post.onInt {k : Int → M S α} {d : D} (p : Post F G H (DL.onInt k d s) P) : ∃ i, d = .int i ∧ Post F G H (k i s) P := by
  cases d <;> first | exact ⟨_, rfl, p⟩ | exact p.elim
theorem Post.onLst {k : List D → M S α} {d : D} (p : Post F G H (DL.onLst k d s) P) : ∃ i, d = .lst i ∧ Post F G H (k i s) P := by
  cases d <;> first | exact ⟨_, rfl, p⟩ | exact p.elim
theorem Post.onSeq {k : List D → M S α} {d : D} (p : Post F G H (DL.onSeq k d s) P) : ∃ i, (d = .lst i ∨ d = .tup i) ∧ Post F G H (k i s) P := by
  cases d <;> first | exact ⟨_, .inl rfl, p⟩ | exact ⟨_, .inr rfl, p⟩ | exact p.elim
theorem Post.a1 {k : D → M S α} {ds : List D} (p : Post F G H (DL.a1 k ds s) P) : ∃ d, ds = [d] ∧ Post F G H (k d s) P := by
  match ds, p with
  | [d], p => exact ⟨d, rfl, p⟩
  | [], p => exact p.elim
  | _ :: _ :: _, p => exact p.elim
theorem Post.a2 {k : D → D → M S α} {ds : List D} (p : Post F G H (DL.a2 k ds s) P) : ∃ d e, ds = [d, e] ∧ Post F G H (k d e s) P := by
  match ds, p with
  | [d, e], p => exact ⟨d, e, rfl, p⟩
  | [], p => exact p.elim
  | [_], p => exact p.elim
  | _ :: _ :: _ :: _, p => exact p.elim
end
theorem RepL.r1 {C : Cc S} {G : Hp} {d : D} {vs : List V} (r : RepL C G [d] vs) : ∃ v, vs = [v] ∧ Rep C G d v := by
  obtain ⟨v, _, e, a, e'⟩ := r
  subst e e'
  exact ⟨v, rfl, a⟩
theorem RepL.r2 {C : Cc S} {G : Hp} {d e : D} {vs : List V} (r : RepL C G [d, e] vs) : ∃ v w, vs = [v, w] ∧ Rep C G d v ∧ Rep C G e w := by
  obtain ⟨v, _, e, a, b⟩ := r
  obtain ⟨w, rfl, q⟩ := b.r1
  subst e
  exact ⟨v, w, rfl, a, q⟩
/-! ### range(a, b) -/
def iR2 (τ : Env → M S (List D)) : Env → M S (List D) := fun env => do a2 (fun d e => onInt (fun i => onInt (fun j => grd (-(2 ^ 62) ≤ i ∧ i < 2 ^ 62 ∧ -(2 ^ 62) ≤ j ∧ j < 2 ^ 62) (pure (rngD i j))) e) d) (← τ env)
/-! ### for -/
def forL (γ : D → Env → M S Env) (τ : Env → M S Flw) : List D → Env → M S Flw
  | [], env => pure (.nx env)
  | x :: xs, env => do
    let env1 ← γ x env
    match ← τ env1 with
    | .nx e => forL γ τ xs e
    | .ct e => forL γ τ xs e
    | .bk e => pure (.nx e)
    | .rt d => pure (.rt d)
def sFor (ι : Env → M S (List D)) (γ : D → Env → M S Env) (τ : Env → M S Flw) : Env → M S Flw := fun env => do forL γ τ (← ι env) env
theorem ds_for {tg iter : Expr} {body : List Stmt} {ι : Env → M S (List D)} {γ : D → Env → M S Env} {τ : Env → M S Flw} {pos : Pos} (hp : PassesOwn (model X.prog X.w) X.A X.env X.xe) (hc : X.calm = true) (hi : PI X tg iter (tI F ι)) (hg : PG X tg (tG F γ)) (hb : PSs X body (tS F τ))
    (hs : ∀ x, foldedSetIterable iter X.env x = pure x := by intro _; rfl) : PS X (.For tg iter body [] pos) (tS F (sFor ι γ τ)) := ps_mono (ps_for hp hc hi hg hb hs) fun D σ H ⟨G, env, s, st, p⟩ => by
  refine ⟨G, env, s, st, (Post.bind p).mono fun ds s1 _ hk J G1 H1 e1 st1 it => ?_⟩
  refine ⟨fun i m σ H => m = ds.length - i ∧ ∃ G env s, Same G1 G ∧ StG F G σ H env s ∧ Post F G H (forL γ τ (ds.drop i) env s) (FP F G D),
    ⟨_, rfl, G1, env, s1, Same.refl _, st1, (hk.later e1.g).mono fun _ _ _ q => q.later e1.g⟩, ?_⟩
  rintro i m σ' H' ⟨rfl, G', env', s', sg, st', p'⟩
  obtain ⟨go, stop⟩ := it G' H' s' sg st'.gd
  by_cases hi : i < ds.length
  · obtain ⟨g, y⟩ := go i ds[i] (by simp [hi])
    refine .inr ⟨g, fun σ2 H2 => ∃ G env s, Same G1 G ∧ StG F G σ2 H2 env s ∧ Post F G H2 (forL γ τ (ds.drop (i + 1)) env s) (FP F G D), fun σ2 H2 h => ⟨_, by omega, rfl, h⟩, fun x H2 hy => ?_⟩
    obtain ⟨G2, e2, g2, r2⟩ := y x H2 hy
    have st2 := st'.ext' e2 g2
    rw [List.drop_eq_getElem_cons hi] at p'
    refine ⟨G2, env', s', ds[i], st2, r2, (Post.bind (p'.later e2.g)).mono fun env3 s3 _ hk3 σ3 G3 H3 e3 st3 => ?_⟩
    refine ⟨G3, env3, s3, st3, (Post.bind (hk3.later e3)).mono fun fl s4 _ hk4 => ?_⟩
    cases fl with
    | nx e => exact fun σ4 G4 H4 e4 st4 => ⟨G4, e, s4, ((sg.trans e2.g).trans e3).trans e4, st4, (hk4.later e4).mono fun _ _ _ q => q.later ((e2.g.trans e3).trans e4)⟩
    | ct e => exact fun σ4 G4 H4 e4 st4 => ⟨G4, e, s4, ((sg.trans e2.g).trans e3).trans e4, st4, (hk4.later e4).mono fun _ _ _ q => q.later ((e2.g.trans e3).trans e4)⟩
    | bk e => exact fun σ4 G4 H4 e4 st4 => hk4 σ4 G4 H4 ((e2.g.trans e3).trans e4) st4
    | rt d => exact fun v G4 H4 e4 => hk4 v G4 H4 ((e2.g.trans e3).trans e4)
  · rw [List.drop_eq_nil_of_le (by omega)] at p'
    exact .inl ⟨stop i (by omega), p' σ' G' H' (Same.refl _) st'⟩
/-! ### list comprehensions -/
def wipeE (env : Env) : List Nat → Env
  | [] => env
  | v :: vs => (wipeE env vs).set v none
theorem RepEnv.wipe {G H : Hp} {σ : L2.St} {env : Env} (h : RepEnv F G H σ env) : ∀ vs, RepEnv F G H (wipe σ vs) (wipeE env vs)
  | [] => h
  | v :: vs => (h.wipe vs).drop v none
theorem StG.wipe {G H : Hp} {σ : L2.St} {env : Env} {s : S} (h : StG F G σ H env s) (vs : List Nat) : StG F G (wipe σ vs) H (wipeE env vs) s := ⟨h.ext, h.gd, h.env_.wipe vs⟩
/-- nothing is wished of errors -/
def Fx.calm (F : Fx S) : Fx S := { F with wish := fun _ _ _ _ => False }
theorem RepSlot.calm {G H : Hp} {sl : Option Slot} {o : Option V} : RepSlot F G H sl o ↔ RepSlot F.calm G H sl o := by
  cases sl with
  | none => exact Iff.rfl
  | some sl => cases sl <;> exact Iff.rfl
theorem StG.calm {G H : Hp} {σ : L2.St} {env : Env} {s : S} (h : StG F G σ H env s) : StG F.calm G σ H env s :=
  ⟨h.ext, h.gd, h.env_.len, fun i sl e => let ⟨o, a, b⟩ := h.env_.at_ i sl e; ⟨o, a, RepSlot.calm.mp b⟩, h.env_.apart⟩
/-- a target of a comprehension: it changes the comprehension's own slots alone -/
def GW (F : Fx S) (own : List Nat) (g : TG) (γ : D → Env → M S Env) : Prop := ∀ σ0 G H env s d v (Q : L2.St → Hp → Prop), StG F G (wipe σ0 own) H env s → Rep F.toCc G d v →
  Post F G H (γ d env s) (fun env' s' => ∀ σ' G' H', Ext F.reg G H G' H' → wipe σ' own = wipe σ0 own → StG F G' σ' H' env' s' → Q σ' H') → g v (wipe σ0 own) H Q
theorem wipe_get (σ : L2.St) (own : List Nat) (j : Nat) : (wipe σ own)[j]? = if j ∈ own ∧ j < σ.length then some none else σ[j]? := by
  induction own with
  | nil => simp [wipe]
  | cons v vs ih =>
    unfold wipe
    by_cases e : v = j
    · subst e
      by_cases hl : v < σ.length
      · rw [List.getElem?_set_self (by rw [wipe_length]; exact hl), if_pos ⟨by simp, hl⟩]
      · rw [List.getElem?_eq_none (by rw [List.length_set, wipe_length]; omega), if_neg (fun h => hl h.2), List.getElem?_eq_none (by omega)]
    · rw [List.getElem?_set_ne e, ih]
      by_cases hj : j ∈ vs
      · simp [hj]
      · have : ¬ j ∈ v :: vs := by
          intro h
          rcases List.mem_cons.mp h with h | h
          · exact e h.symm
          · exact hj h
        simp [hj, this]
theorem wipe_set {σ : L2.St} {own : List Nat} {i : Nat} (h : i ∈ own) (o : Option V) : wipe (σ.set i o) own = wipe σ own := by
  apply List.ext_getElem?
  intro j
  rw [wipe_get, wipe_get, List.length_set]
  by_cases q : j ∈ own ∧ j < σ.length
  · rw [if_pos q, if_pos q]
  · rw [if_neg q, if_neg q]
    by_cases e : i = j
    · subst e
      have hl : ¬ i < σ.length := fun z => q ⟨h, z⟩
      rw [List.getElem?_eq_none (by rw [List.length_set]; omega), List.getElem?_eq_none (by omega)]
    · rw [List.getElem?_set_ne e]
theorem wipe_wipe {σ : L2.St} {own : List Nat} : wipe (wipe σ own) own = wipe σ own := by
  apply List.ext_getElem?
  intro j
  rw [wipe_get, wipe_get, wipe_length]
  by_cases q : j ∈ own ∧ j < σ.length
  · rw [if_pos q, if_pos q]
  · rw [if_neg q]
theorem gw_name {own : List Nat} {i : Nat} (h : i ∈ own) : GW F own (gName i) (gNm i) := fun σ0 G H env s d v Q st r p =>
  p _ G H (Ext.refl _ _ _) (by rw [wipe_set h, wipe_wipe]) (st.set i r)
def cmpL (γ : D → Env → M S Env) (t : Env → M S Bool) (e : Env → M S D) (env : Env) : List D → M S (List D)
  | [] => pure []
  | x :: xs => do
    let env1 ← γ x env
    if ← t env1 then do
      let y ← e env1
      let ys ← cmpL γ t e env xs
      pure (y :: ys)
    else cmpL γ t e env xs
def cmp (own : List Nat) (ι : Env → M S (List D)) (γ : D → Env → M S Env) (t : Env → M S Bool) (e : Env → M S D) : Env → M S D := fun env => do
  let xs ← ι env
  grd (xs.length ≤ sizeLine) (do return .lst (← calmM (cmpL γ t e (wipeE env own) xs)))
theorem calm_ok {α : Type} {m : M S α} {s : S} {G H : Hp} {P : α → S → Prop} (p : Post F G H (calmM m s) P) : ∃ a s', m s = .ok a s' ∧ P a s' := by
  unfold calmM at p
  cases q : m s with
  | ok a s' => rw [q] at p; exact ⟨a, s', rfl, p⟩
  | err x s' => rw [q] at p; exact p.elim
  | stk => rw [q] at p; exact p.elim
theorem bind_ok {α β : Type} {r : Res S α} {f : α → S → Res S β} {b : β} {s' : S} (h : r.bind f = .ok b s') : ∃ a s1, r = .ok a s1 ∧ f a s1 = .ok b s' := by
  cases r with
  | ok a s1 => exact ⟨a, s1, rfl, h⟩
  | err x s1 => exact nomatch h
  | stk => exact nomatch h
/-- the new list D, open, through a comprehension's turns -/
structure Acc (F : Fx S) (G1 H1 : Hp) (Dl : Addr) (G H : Hp) (acc : List D) (n : Nat) : Prop where
  ext : Ext F.reg G1 H1 G H
  h1 : H1 Dl = none
  nr : ¬ F.reg Dl
  at_ : ∃ vs, H Dl = some (.lst vs) ∧ RepL F.toCc G acc vs
  gn : G Dl = none
  len : acc.length ≤ n
/-- as tE, and the value is a new object -/
def tEN (F : Fx S) (τ : Env → M S D) : TE := fun σ H Q => ∃ G env s, StG F G σ H env s ∧
  Post F G H (τ env s) fun d s' => ∀ v G' H', (∃ a, v = .ref a ∧ H a = none) → Ext F.reg G H G' H' → StG F G' σ H' env s' → Rep F.toCc G' d v → Q v H'
theorem tLcN_of {own : List Nat} {ι : Env → M S (List D)} {γ : D → Env → M S Env} {t : Env → M S Bool} {e : Env → M S D} {g : TG} (hg : GW F.calm own g γ) (σ : L2.St) (H : Hp) (Q : VK) (h : tEN F (cmp own ι γ t e) σ H Q) :
    tLc (tI F ι) g (tT F.calm t) (tE F.calm e) own σ H Q := by
  obtain ⟨G, env, s, st, p⟩ := h
  refine ⟨G, env, s, st, (Post.bind p).mono fun ds s1 _ hk J G1 H1 e1 st1 it => ?_⟩
  obtain ⟨hz, hk⟩ := Post.grd hk
  obtain ⟨ys, sE, hys, hk⟩ := calm_ok (Post.bind hk)
  intro Dl nD
  obtain ⟨gd2, e2⟩ := st1.gd.open_ nD (.lst [])
  have nrD : ¬ F.reg Dl := fun z => by
    obtain ⟨u, e⟩ := F.there s1 H1 Dl st1.gd.w z
    rw [nD] at e; cases e
  refine ⟨fun i m H => m = ds.length - i ∧ ∃ G s acc, i ≤ ds.length ∧ Acc F G1 H1 Dl G H acc i ∧ Gd F.toCc G H s ∧ ∃ rest, cmpL γ t e (wipeE env own) (ds.drop i) s = .ok rest sE ∧ ys = acc ++ rest,
    ⟨_, rfl, G1, s1, [], Nat.zero_le _, ⟨e2, nD, nrD, ⟨[], upd_same, rfl⟩, st1.gd.gh.free nD, Nat.le_refl _⟩, gd2, ys, hys, rfl⟩, ?_⟩
  rintro i m H' ⟨rfl, G', s', acc, hi, A, gd', rest, hr, hy⟩
  have st' : StG F G' σ H' env s' := st1.ext' A.ext gd'
  obtain ⟨go, stop⟩ := it G' H' s' A.ext.g gd'
  obtain ⟨vs, hD, rv⟩ := A.at_
  by_cases hlt : i < ds.length
  · obtain ⟨gi, y⟩ := go i ds[i] (by simp [hlt])
    refine .inr ⟨gi, fun H2 => ∃ G s acc, i + 1 ≤ ds.length ∧ Acc F G1 H1 Dl G H2 acc (i + 1) ∧ Gd F.toCc G H2 s ∧ ∃ rest, cmpL γ t e (wipeE env own) (ds.drop (i + 1)) s = .ok rest sE ∧ ys = acc ++ rest, fun H2 h => ⟨_, by omega, rfl, h⟩, fun x H2 hy2 => ?_⟩
    obtain ⟨G2, ex2, g2, r2⟩ := y x H2 hy2
    have st2 : StG F.calm G2 (wipe σ own) H2 (wipeE env own) s' := ((st'.ext' ex2 g2).wipe own).calm
    rw [List.drop_eq_getElem_cons hlt] at hr
    obtain ⟨env3, s3, q3, hr⟩ := bind_ok hr
    refine hg σ G2 H2 (wipeE env own) s' ds[i] x _ st2 r2 ?_
    rw [q3]
    intro σ3 G3 H3 ex3 hw3 st3
    refine ⟨hw3, ?_⟩
    obtain ⟨b, s4, q4, hr⟩ := bind_ok hr
    refine ⟨G3, env3, s3, st3, ?_⟩
    rw [q4]
    intro G4 H4 ex4 st4
    have exA : Ext F.reg G' H' G4 H4 := (ex2.trans ex3).trans ex4
    cases b with
    | false =>
      rw [if_neg Bool.false_ne_true]
      exact ⟨G4, s4, acc, hlt, ⟨A.ext.trans exA, A.h1, A.nr, ⟨vs, exA.fr _ _ hD nrD (by intro _ h; cases h), rv.mono exA.g⟩, exA.un hD A.gn nrD, Nat.le_succ_of_le A.len⟩, st4.gd, rest, hr, hy⟩
    | true =>
      rw [if_pos rfl]
      obtain ⟨d5, s5, q5, hr⟩ := bind_ok hr
      obtain ⟨rs, s6, q6, hr⟩ := bind_ok hr
      refine ⟨G4, env3, s4, st4, ?_⟩
      rw [q5]
      intro v5 G5 H5 ex5 st5 r5
      have exB : Ext F.reg G' H' G5 H5 := exA.trans ex5
      have hD5 := exB.fr _ _ hD nrD (by intro _ h; cases h)
      have gn5 := exB.un hD A.gn nrD
      have hal := A.len
      refine ⟨vs, hD5, by rw [rv.length]; exact Nat.lt_of_lt_of_le (Nat.lt_of_le_of_lt hal hlt) hz, ?_⟩
      have gd6 := st5.gd.write hD5 gn5 nrD (.lst (vs ++ [v5]))
      have eC : Ext F.reg G1 H1 G5 H5 := A.ext.trans exB
      cases hr
      refine ⟨G5, s5, acc ++ [d5], hlt, ⟨⟨eC.g, fun b o q n nt => ?_, eC.nw, fun b q => ?_⟩, A.h1, A.nr, ⟨_, upd_same, (rv.mono exB.g).append (RepL.one r5)⟩, gn5, ?_⟩, gd6, rs, q6, by rw [hy, List.append_assoc]; rfl⟩
      · rw [upd_ne (ne_of_none q A.h1)]; exact eC.fr b o q n nt
      · by_cases hb : b = Dl
        · subst hb; rw [upd_same] at q; cases q
        · rw [upd_ne hb] at q; exact eC.tr b q
      · rw [List.length_append, List.length_singleton]; omega
  · rw [List.drop_eq_nil_of_le (by omega)] at hr
    cases hr
    rw [List.append_nil] at hy
    subst hy
    refine .inl ⟨stop i (by omega), ?_⟩
    have gdF := gd'.freeze hD nrD
    have eF : Ext F.reg G1 H1 (upd G' Dl (.lst vs)) H' := ⟨fun b o q => by rw [upd_ne (ne_of_none (A.ext.g b o q) A.gn)]; exact A.ext.g b o q, A.ext.fr, fun b o q => by
      by_cases hb : b = Dl
      · subst hb; exact .inr (.inl A.h1)
      · rw [upd_ne hb] at q; exact A.ext.nw b o q, A.ext.tr⟩
    refine hk (.ref Dl) _ H' ⟨Dl, rfl, e1.tr Dl nD⟩ (e1.trans eF) (st1.ext' eF gdF) ⟨Dl, vs, rfl, upd_same, ?_, rv.mono fun b o q => by rw [upd_ne (ne_of_none q A.gn)]; exact q⟩
    rw [rv.length]
    exact Nat.le_trans A.len (Nat.le_trans hi hz)
theorem tLc_of {own : List Nat} {ι : Env → M S (List D)} {γ : D → Env → M S Env} {t : Env → M S Bool} {e : Env → M S D} {g : TG} (hg : GW F.calm own g γ) (σ : L2.St) (H : Hp) (Q : VK) (h : tE F (cmp own ι γ t e) σ H Q) :
    tLc (tI F ι) g (tT F.calm t) (tE F.calm e) own σ H Q := by
  obtain ⟨G, env, s, st, p⟩ := h
  exact tLcN_of hg σ H Q ⟨G, env, s, st, p.mono fun _ _ _ q v G' H' _ => q v G' H'⟩
def tYs : Env → M S Bool := fun _ => pure true
theorem pts_mono {ifs : List Expr} {t t' : TT} (h : PTs X ifs t) (m : ∀ σ H Q, t' σ H Q → t σ H Q) : PTs X ifs t' := ⟨fun pins s σ H Q I q => h.run pins s σ H Q I (m σ H Q q)⟩
theorem dts_nil : PTs X [] (tT F tYs) := pts_mono pts_nil fun σ H Q ⟨G, env, s, st, p⟩ => p G H (Ext.refl _ _ _) st
theorem dts_one {c : Expr} {t : Env → M S Bool} (h : PT X c (tT F t)) : PTs X [c] (tT F t) := pts_one h
section
variable {elt tg iter : Expr} {ifs : List Expr} {scope : Scope} {own : List (Str × Nat)} {pos spos : Pos} {g : TG} {ι : Env → M S (List D)} {γ : D → Env → M S Env} {t : Env → M S Bool} {e : Env → M S D}
theorem de_lc (hc : X.calm = true) (hN : X.N.Nodup) (hi : PI X tg iter (tI F ι)) (ok : BlkOk X.N X.env.scope scope own) (gw : GW F.calm (own.map (·.2)) g γ)
    (hg : ∀ (s : Shared) (H : Hp) (C : Addr) (cl : List (Str × Addr)) (fp : List Addr), PG (X.blk s H scope (compEnvC scope cl C X.env) fp) tg g) (ht : ∀ (s : Shared) (H : Hp) (C : Addr) (cl : List (Str × Addr)) (fp : List Addr), PTs (X.blk s H scope (compEnvC scope cl C X.env) fp) ifs (tT F.calm t))
    (he : ∀ (s : Shared) (H : Hp) (C : Addr) (cl : List (Str × Addr)) (fp : List Addr), PE (X.blk s H scope (compEnvC scope cl C X.env) fp) elt (tE F.calm e)) (hs : ∀ x, foldedSetIterable iter X.env x = pure x := by intro _; rfl) :
    PE X (.ListComp elt [⟨tg, iter, ifs, 0⟩] scope pos) (tE F (cmp (own.map (·.2)) ι γ t e)) := pe_mono (pe_lc hc hN hi ok hg ht he hs) (tLc_of gw)
theorem tAsgLc_of {i : Nat} (gw : GW F.calm (own.map (·.2)) g γ) (D : Ends) (σ : L2.St) (H : Hp) (h : tS F (sAsg (cmp (own.map (·.2)) ι γ t e) (gNm i)) D σ H) : tAsg (tLc (tI F ι) g (tT F.calm t) (tE F.calm e) (own.map (·.2))) (gName i) D σ H := by
  obtain ⟨G, env, s, st, p⟩ := h
  refine tLc_of gw σ H _ (seqE st p fun d s1 v G1 H1 e1 st1 r1 p1 => ?_)
  exact p1 _ G1 H1 e1.g (st1.set i r1)
theorem ds_setLc {i : Nat} {y : Str} {py : Pos} (hc : X.calm = true) (hN : X.N.Nodup) (hy : X.N[i]? = some y) (hyl : X.env.scope.names.lookup y = some .local)
    (hsw : swapsWith (.ListComp elt [⟨tg, iter, ifs, 0⟩] scope pos) (some (.Name y py)) spos.line X.env = pure true) (hi : PI X tg iter (tI F ι)) (ok : BlkOk X.N X.env.scope scope own) (gw : GW F.calm (own.map (·.2)) g γ)
    (hg : ∀ (s : Shared) (H : Hp) (C : Addr) (cl : List (Str × Addr)) (fp : List Addr), PG (X.blk s H scope (compEnvC scope cl C X.env) fp) tg g) (ht : ∀ (s : Shared) (H : Hp) (C : Addr) (cl : List (Str × Addr)) (fp : List Addr), PTs (X.blk s H scope (compEnvC scope cl C X.env) fp) ifs (tT F.calm t))
    (he : ∀ (s : Shared) (H : Hp) (C : Addr) (cl : List (Str × Addr)) (fp : List Addr), PE (X.blk s H scope (compEnvC scope cl C X.env) fp) elt (tE F.calm e)) (hs : ∀ x, foldedSetIterable iter X.env x = pure x := by intro _; rfl) :
    PS X (.Assign [.Name y py] (.ListComp elt [⟨tg, iter, ifs, 0⟩] scope pos) spos) (tS F (sAsg (cmp (own.map (·.2)) ι γ t e) (gNm i))) := ps_mono (ps_setLc hc hN hy hyl hsw hi ok hg ht he hs) (tAsgLc_of gw)
end
end DL
set_option Elab.async false
set_option linter.all false
set_option maxRecDepth 100000
set_option maxHeartbeats 4000000
set_option autoImplicit false
namespace DL
open PySem PySem.Spec PyProof.Rows L2
variable {S : Type} {X : Cx} {F : Fx S}
/-! ### what a def promises -/
def PostC {α : Type} (C : Cc S) (reg : Addr → Prop) (G H : Hp) (E : XK) (r : Res S α) (Q : α → S → Prop) : Prop := match r with
  | .ok a s' => Q a s'
  | .err x s' => ∀ cls dd G' H', Ext reg G H G' H' → Gd C G' H' s' → RepX C G' x cls dd → E cls dd H'
  | .stk => False
def spD (C : Cc S) (n : Nat) (sem : List D → M S D) : Sp := fun vs H Q E => vs.length = n ∧ ∃ G ds s, Gd C G H s ∧ RepL C G ds vs ∧
  PostC C C.reg G H E (sem ds s) fun d s' => ∀ v G' H', Ext C.reg G H G' H' → Gd C G' H' s' → Rep C G' d v → Q v H'
theorem spD_len {C : Cc S} {n : Nat} {sem : List D → M S D} {ps : List Str} (h : ps.length = n) : ∀ vs H Q E, spD C n sem vs H Q E → vs.length = ps.length := fun _ _ _ _ q => q.1.trans h.symm
/-- sem' is sem where it claims anything -/
def Rfn (sem' sem : List D → M S D) : Prop := ∀ ds s, sem' ds s ≠ .stk → sem ds s = sem' ds s
theorem spD_imp {C : Cc S} {n : Nat} {sem sem' : List D → M S D} (h : Rfn sem' sem) (vs : List V) (H : Hp) (Q : VK) (E : XK) (q : spD C n sem' vs H Q E) : spD C n sem vs H Q E := by
  obtain ⟨l, G, ds, s, g, r, p⟩ := q
  refine ⟨l, G, ds, s, g, r, ?_⟩
  have e : sem ds s = sem' ds s := h ds s fun z => by rw [z] at p; exact p
  rw [e]; exact p
/-- what is wished of a callee's error -/
def eOf (F : Fx S) : XK := fun cls dd H' => ∀ σ', F.wish cls dd σ' H'
theorem passes_F (tk : Takes X F.wish) : Passes (L2.CX X.prog X.w) X (eOf F) := passes_call tk fun cls d σ H h => h σ
/-- the callee's promise from what the caller wants -/
theorem spD_of {n : Nat} {sem : List D → M S D} {ds : List D} {vs : List V} {G H : Hp} {σ : L2.St} {env : Env} {s : S} {Q : VK} (hn : ds.length = n) (st : StG F G σ H env s) (r : RepL F.toCc G ds vs) (p : Post F G H (sem ds s) (K1 F G H σ env Q)) : spD F.toCc n sem vs H Q (eOf F) := by
  refine ⟨by rw [r.length]; exact hn, G, ds, s, st.gd, r, ?_⟩
  cases q : sem ds s with
  | ok d s' => rw [q] at p; exact fun v G' H' e g rv => p v G' H' e (st.ext' e g) rv
  | err x s' => rw [q] at p; exact fun cls dd G' H' e g rx σ' => p cls dd σ' G' H' e.g (st.ext.trans (e.wide F.sub)) g rx
  | stk => rw [q] at p; exact p
/-! ### calls of defs -/
def cal (sem : List D → M S D) (dv : List D) (n : Nat) (τ : Env → M S (List D)) : Env → M S D := fun env => do
  let ds ← τ env
  grd (ds.length + dv.length = n) (sem (ds ++ dv))
/-- defaults, as values and as data -/
def DfR (C : Cc S) : List D → List V → Prop := fun dv dvs => ∀ G, RepL C G dv dvs
theorem DfR.nil {C : Cc S} : DfR C [] [] := fun _ => rfl
section
variable {k n : Nat} {f C : Addr} {fd : FuncData} {ps : List Str} {sem : List D → M S D} {dv : List D} {dvs : List V} {ds : List Value} {x m : Str} {p pos apos : Pos} {e o : Expr} {es : List Expr} {τ : Env → M S D} {α : Env → M S (List D)}
theorem tCall_of (dr : DfR F.toCc dv dvs) (σ : L2.St) (H : Hp) (Q : VK) (h : tE F (cal sem dv n α) σ H Q) : tCall (spD F.toCc n sem) dvs (eOf F) (tA F α) σ H Q := by
  obtain ⟨G, env, s, st, p⟩ := h
  refine seqA st p fun ds s1 vs G1 H1 e1 st1 r1 p1 => ?_
  obtain ⟨hl, p1⟩ := Post.grd p1
  exact spD_of (by rw [List.length_append]; exact hl) st1 (r1.append (dr G1)) (p1.K1 e1)
theorem de_call (G : FnOk X.prog X.w X.K X.mg X.base (L2.CX X.prog X.w) k f fd ps (spD F.toCc n sem)) (tk : Takes X F.wish) (hr : Room k X.A) (hg : Gl X x) (hm : X.mg x = some (.ref f)) (hk : PySem.W.keepIn X.K (.ref f) = true) (hb : Binds X.K fd ps ds) (hd : Vals dvs ds) (dr : DfR F.toCc dv dvs)
    (ha : PA X (e :: es) (tA F α)) (hdb : (x == ("__debug__" : Str)) = false := by decide) (he : starEach (e :: es) X.env = (false, eval e X.env) :: starEach es X.env := by rfl) (hpl : (backTo pos (starEach es X.env)).any (·.1) = false := by rfl) :
    PE X (.Call (.Name x p) (e :: es) [] pos) (tE F (cal sem dv n α)) := pe_mono (pe_call G hr hg hm hk hb hd (passes_F tk) ha hdb he hpl) (tCall_of dr)
theorem de_call0 (G : FnOk X.prog X.w X.K X.mg X.base (L2.CX X.prog X.w) k f fd ps (spD F.toCc n sem)) (tk : Takes X F.wish) (hr : Room k X.A) (hg : Gl X x) (hm : X.mg x = some (.ref f)) (hk : PySem.W.keepIn X.K (.ref f) = true) (hb : Binds X.K fd ps ds) (hd : Vals dvs ds) (dr : DfR F.toCc dv dvs)
    (hdb : (x == ("__debug__" : Str)) = false := by decide) : PE X (.Call (.Name x p) [] [] pos) (tE F (cal sem dv n aNil)) := pe_mono (pe_call0 G hr hg hm hk hb hd (passes_F tk) hdb) fun σ H Q ⟨G, env, s, st, p⟩ => by
  have p : Post F G H (grd (([] : List D).length + dv.length = n) (sem ([] ++ dv)) s) (K1 F G H σ env Q) := p
  obtain ⟨hl, p1⟩ := Post.grd p
  exact spD_of (by rw [List.length_append]; exact hl) st ((show RepL F.toCc G [] [] from rfl).append (dr G)) p1
/-! ### methods -/
theorem RepF.lookup {C : Cc S} {G : Hp} {m : Str} : ∀ {fs : List (Str × D)} {vs : List (Str × V)}, RepF C G fs vs → (fs.lookup m = none → vs.lookup m = none) ∧ ∀ d, fs.lookup m = some d → ∃ v, vs.lookup m = some v ∧ Rep C G d v
  | [], _, r => by
    have e : _ = [] := r
    subst e
    exact ⟨fun _ => rfl, fun d h => nomatch h⟩
  | (k, d) :: fs, _, ⟨v, r, e, a, b⟩ => by
    subst e
    obtain ⟨h1, h2⟩ := b.lookup (m := m)
    simp only [List.lookup]
    cases hk : m == k with
    | true => exact ⟨fun z => (nomatch z), fun d' z => by cases z; exact ⟨v, rfl, a⟩⟩
    | false => exact ⟨h1, h2⟩
/-! ### fields -/
def fldC (c f : Str) (τ : Env → M S D) : Env → M S D := fun env => do
  onIns (fun c' fs => grd (c' = c) (match fs.lookup f with
    | some d => pure d
    | none => stk)) (← τ env)
/-- o.f, a property of the class c -/
def prp (c : Str) (sem : List D → M S D) (τ : Env → M S D) : Env → M S D := fun env => do
  let o ← τ env
  onIns (fun c' _ => grd (c' = c) (calmM (sem [o]))) o
end
/-! ### a def by its body -/
def startE (N : List Str) (ds : List D) : Env := ds.map (fun d => some (.val d)) ++ List.replicate (N.length - ds.length) none
def runB (rd : Env → M S Flw) (N : List Str) (ds : List D) : M S D := fun s => match rd (startE N ds) s with
  | .ok (.rt d) s' => .ok d s'
  | .ok (.nx _) s' => .ok .non s'
  | .ok _ _ => .stk
  | .err x s' => .err x s'
  | .stk => .stk
theorem repEnv_start {F : Fx S} {G H : Hp} {N : List Str} : ∀ {ds : List D} {vs : List V}, RepL F.toCc G ds vs → RepEnv F G H (L2.start N vs) (startE N ds) := fun {ds vs} r => by
  have hl := r.length
  have no : ∀ i, ¬ isOwn (startE N ds)[i]? := fun i h => by
    unfold startE at h
    by_cases hi : i < ds.length
    · rw [List.getElem?_append_left (by simpa using hi), List.getElem?_map, List.getElem?_eq_getElem hi] at h
      exact h
    · rw [List.getElem?_append_right (by simpa using hi), List.getElem?_replicate] at h
      split at h <;> exact h
  refine ⟨?_, fun i sl e => ?_, fun i j _ hi _ => (no i hi).elim⟩
  · unfold L2.start startE
    simp [hl]
  · unfold startE at e
    unfold L2.start
    by_cases hi : i < ds.length
    · rw [List.getElem?_append_left (by simpa using hi), List.getElem?_map, List.getElem?_eq_getElem hi] at e
      cases e
      obtain ⟨v, hv, rv⟩ := r.get (i := i) (d := ds[i]) (by simp [hi])
      refine ⟨some v, ?_, v, rfl, rv⟩
      rw [List.getElem?_append_left (by simpa [hl] using hi), List.getElem?_map, hv]; rfl
    · rw [List.getElem?_append_right (by simpa using hi), List.getElem?_replicate] at e
      split at e
      · rename_i hq
        cases e
        refine ⟨none, ?_, trivial⟩
        rw [List.length_map] at hq
        rw [List.getElem?_append_right (by simpa [hl] using hi), List.getElem?_replicate, if_pos (by simpa [hl] using hq)]
      · cases e
/-- the ground of a def's body -/
def fxOf (C : Cc S) (G H : Hp) (E : XK) : Fx S := { C with G0 := G, H0 := H, reg0 := C.reg, sub := fun _ h => h, wish := fun cls d _ H' => E cls d H' }
section
variable {P : Program} {w : World} {K : PySem.W.Frag} {mg : Str → Option Value} {base : Heap} {x qual : Str} {stm : Stmt} {f : Addr} {fd : FuncData} {N ps : List Str} {k : Nat}
theorem fn_body {C : Cc S} {rd : Env → M S Flw} {sem : List D → M S D} (Fn : Fun K x qual stm f fd) (Sc : FnScope N ps (defScope stm)) (hsem : Rfn sem (runB rd N))
    (hb : ∀ (cdv : Value) (A : Around) (outer : List PySem.Env) (s : Shared) (H G : Hp) (E : XK), Room k (A.deeper (envOfC qual (defScope stm) s.heap.objs.size f cdv)) →
      PSs (cxOf (L2.CX P w) P w K mg base N qual (defScope stm) f cdv A outer s H E) (defBody stm) (tS (fxOf C G H E) rd)) : FnOk P w K mg base (L2.CX P w) (k + 1) f fd ps (spD C ps.length sem) := by
  refine Fn.okX Sc (spD_len rfl) fun cdv A outer s H vs Q E hr h => ?_
  obtain ⟨hl, G, ds, st, g, r, p⟩ := spD_imp hsem vs H Q E h
  refine ⟨_, hb cdv A outer s H G E hr, G, startE N ds, st, ⟨Ext.refl _ _ _, g, repEnv_start r⟩, ?_⟩
  unfold runB at p
  cases q : rd (startE N ds) st with
  | stk => rw [q] at p; exact p
  | err e s' => rw [q] at p; exact fun cls dd σ' G' H' _ ex gd rx => p cls dd G' H' ex gd rx
  | ok fl s' =>
    rw [q] at p
    cases fl with
    | nx e => exact fun σ' G' H' _ st' => p .non G' H' st'.ext st'.gd rfl
    | rt d => exact fun v G' H' _ ex gd rv => p v G' H' ex gd rv
    | bk e => exact p.elim
    | ct e => exact p.elim
end
end DL
set_option Elab.async false
set_option linter.all false
set_option maxRecDepth 100000
set_option maxHeartbeats 4000000
set_option autoImplicit false
namespace DL
open PySem PySem.Spec PyProof.Rows L2
variable {S : Type} {X : Cx} {F : Fx S}
/-! ### what an __init__ promises -/
/-! ### c(..) -/
def mk (c : Str) (sem : List D → M S (List (Str × D))) (dv : List D) (n : Nat) (τ : Env → M S (List D)) : Env → M S D := fun env => do
  let ds ← τ env
  grd (ds.length + dv.length = n) (do return .ins c (← sem (ds ++ dv)))
/-! ### an __init__ by its body -/
/-! ### self.f = e -/
def putD (f : Str) (d : D) : List (Str × D) → List (Str × D)
  | [] => [(f, d)]
  | (g, x) :: r => if g = f then (g, d) :: r else (g, x) :: putD f d r
theorem RepF.put {C : Cc S} {G : Hp} {f : Str} {d : D} {v : V} (r : Rep C G d v) : ∀ {fs : List (Str × D)} {vs : List (Str × V)}, RepF C G fs vs → RepF C G (putD f d fs) (putF f v vs)
  | [], _, h => by
    have e : _ = [] := h
    subst e
    exact ⟨v, [], rfl, r, rfl⟩
  | (g, x) :: fs, _, ⟨w, q, e, a, b⟩ => by
    subst e
    unfold putD putF
    by_cases h : g = f
    · rw [if_pos h, if_pos h]; exact ⟨v, q, rfl, r, b⟩
    · rw [if_neg h, if_neg h]; exact ⟨w, _, rfl, a, b.put r⟩
theorem RepF.length {C : Cc S} {G : Hp} : ∀ {ds : List (Str × D)} {vs : List (Str × V)}, RepF C G ds vs → vs.length = ds.length
  | [], _, r => by rw [r]; rfl
  | (_, _) :: _, _, ⟨v, r, e, _, b⟩ => by rw [e, List.length_cons, List.length_cons, b.length]
def sFldO (i : Nat) (c f : Str) (τ : Env → M S D) : Env → M S Flw := fun env => do
  let d ← τ env
  match env[i]? with
  | some (some (.obj c' fs)) => grd (c' = c ∧ fs.length < 1000) (pure (.nx (env.set i (some (.obj c (putD f d fs))))))
  | _ => stk
end DL
set_option Elab.async false
set_option linter.all false
set_option maxRecDepth 100000
set_option maxHeartbeats 4000000
set_option autoImplicit false
namespace DL
open PySem PySem.Spec PyProof.Rows L2
variable {S : Type} {X : Cx} {F : Fx S}
/-! ### built-ins by name -/
def CallD (F : Fx S) (r : List V → Hp → VK → Prop) (f : List D → M S D) : Prop := ∀ G σ H env s ds vs Q, StG F G σ H env s → RepL F.toCc G ds vs → Post F G H (f ds s) (K1 F G H σ env Q) → r vs H Q
def bcl (f : List D → M S D) (α : Env → M S (List D)) : Env → M S D := fun env => do f (← α env)
theorem tCB_of {r : List V → Hp → VK → Prop} {f : List D → M S D} {α : Env → M S (List D)} (hd : CallD F r f) (σ : L2.St) (H : Hp) (Q : VK) (h : tE F (bcl f α) σ H Q) : tCB r (tA F α) σ H Q := by
  obtain ⟨G, env, s, st, p⟩ := h
  refine seqA st p fun ds s1 vs G1 H1 e1 st1 r1 p1 => ?_
  exact hd G1 σ H1 env s1 ds vs Q st1 r1 (p1.K1 e1)
section
variable {x : Str} {p pos : Pos} {e : Expr} {es : List Expr} {α : Env → M S (List D)} {id T : String} {r : List V → Hp → VK → Prop} {f : List D → M S D}
theorem de_callB (hc : CallR X (.builtin id) r) (hd : CallD F r f) (hg : Gl X x) (hm : X.mg x = none) (hv : bootBuiltins x = some (.builtin id)) (ha : PA X (e :: es) (tA F α)) (hn : x ≠ "__name__" := by decide) (hdb : (x == ("__debug__" : Str)) = false := by decide)
    (he : starEach (e :: es) X.env = (false, eval e X.env) :: starEach es X.env := by rfl) (hpl : (backTo pos (starEach es X.env)).any (·.1) = false := by rfl) : PE X (.Call (.Name x p) (e :: es) [] pos) (tE F (bcl f α)) := pe_mono (pe_callB hc hg hm hv ha hn hdb he hpl) (tCB_of hd)
theorem de_callTy (hc : CallR X (.type T) r) (hd : CallD F r f) (hg : Gl X x) (hm : X.mg x = none) (hv : bootBuiltins x = some (.type T)) (ha : PA X (e :: es) (tA F α)) (hn : x ≠ "__name__" := by decide) (hdb : (x == ("__debug__" : Str)) = false := by decide)
    (he : starEach (e :: es) X.env = (false, eval e X.env) :: starEach es X.env := by rfl) (hpl : (backTo pos (starEach es X.env)).any (·.1) = false := by rfl) : PE X (.Call (.Name x p) (e :: es) [] pos) (tE F (bcl f α)) := pe_mono (pe_callTy hc hg hm hv ha hn hdb he hpl) (tCB_of hd)
end
theorem CallR_or {f : Value} {r r' : List V → Hp → VK → Prop} (h : CallR X f r) (h' : CallR X f r') : CallR X f (fun xs H Q => r xs H Q ∨ r' xs H Q) := by
  intro pins s σ H xs us Q I rx q
  rcases q with q | q
  · exact h pins s σ H xs us Q I rx q
  · exact h' pins s σ H xs us Q I rx q
/-! ### ints -/
def intOp (C : Int → Int → Prop) [∀ i j, Decidable (C i j)] (g : Int → Int → D) : D → D → M S D := fun x y => onInt (fun i => onInt (fun j => grd (C i j) (pure (g i j))) y) x
theorem opd_int {C : Int → Int → Prop} [∀ i j, Decidable (C i j)] {g : Int → Int → D} {h : Int → Int → V} (hr : ∀ i j G, Rep F.toCc G (g i j) (h i j)) : OpD F (rI C h) (intOp C g) := fun G σ H env s d e x y Q st rx ry p => by
  obtain ⟨i, rfl, p1⟩ := p.onInt
  obtain ⟨j, rfl, p2⟩ := p1.onInt
  obtain ⟨c, p3⟩ := p2.grd
  cases rx
  cases ry
  exact ⟨i, j, rfl, rfl, c, p3 _ G H (Ext.refl _ _ _) st (hr i j G)⟩
def intOp0 (g : Int → Int → D) : D → D → M S D := fun x y => onInt (fun i => onInt (fun j => pure (g i j)) y) x
theorem opd_int0 {g : Int → Int → D} {h : Int → Int → V} (hr : ∀ i j G, Rep F.toCc G (g i j) (h i j)) : OpD F (rI0 h) (intOp0 g) := fun G σ H env s d e x y Q st rx ry p => by
  obtain ⟨i, rfl, p1⟩ := p.onInt
  obtain ⟨j, rfl, p2⟩ := p1.onInt
  cases rx
  cases ry
  exact ⟨i, j, rfl, rfl, p2 _ G H (Ext.refl _ _ _) st (hr i j G)⟩
instance (i j : Int) : Decidable (CMul i j) := by unfold CMul; exact inferInstance
instance (i j : Int) : Decidable (CDiv i j) := by unfold CDiv; exact inferInstance
instance (i j : Int) : Decidable (CPow i j) := by unfold CPow; exact inferInstance
abbrev subD : D → D → M S D := intOp0 fun i j => .int (i - j)
abbrev mulD : D → D → M S D := intOp CMul fun i j => .int (i * j)
abbrev divD : D → D → M S D := intOp CDiv fun i j => .int (i / j)
abbrev modD : D → D → M S D := intOp (fun _ j => 0 < j) fun i j => .int (i % j)
abbrev powD : D → D → M S D := intOp CPow fun i j => .int (i ^ j.toNat)
theorem od_sub : OpD F (rI0 fun i j => .int (i - j)) subD := opd_int0 fun _ _ _ => rfl
theorem od_mul : OpD F (rI CMul fun i j => .int (i * j)) mulD := opd_int fun _ _ _ => rfl
theorem od_div : OpD F (rI CDiv fun i j => .int (i / j)) divD := opd_int fun _ _ _ => rfl
theorem od_mod : OpD F (rI (fun _ j => 0 < j) fun i j => .int (i % j)) modD := opd_int fun _ _ _ => rfl
theorem od_pow : OpD F (rI CPow fun i j => .int (i ^ j.toNat)) powD := opd_int fun _ _ _ => rfl
abbrev ltD : D → D → M S D := intOp0 fun i j => .bl (decide (i < j))
abbrev leD : D → D → M S D := intOp0 fun i j => .bl (decide (i ≤ j))
abbrev gtD : D → D → M S D := intOp0 fun i j => .bl (decide (j < i))
abbrev geD : D → D → M S D := intOp0 fun i j => .bl (decide (j ≤ i))
theorem od_lt : OpD F (rI0 fun i j => .bl (decide (i < j))) ltD := opd_int0 fun _ _ _ => rfl
theorem od_le : OpD F (rI0 fun i j => .bl (decide (i ≤ j))) leD := opd_int0 fun _ _ _ => rfl
theorem od_gt : OpD F (rI0 fun i j => .bl (decide (j < i))) gtD := opd_int0 fun _ _ _ => rfl
theorem od_ge : OpD F (rI0 fun i j => .bl (decide (j ≤ i))) geD := opd_int0 fun _ _ _ => rfl
def negD (τ : Env → M S D) : Env → M S D := fun env => do onInt (fun i => pure (.int (-i))) (← τ env)
theorem de_neg {a : Expr} {pos : Pos} {τ : Env → M S D} (ha : PE X a (tE F τ)) : PE X (.UnaryOp .USub a pos) (tE F (negD τ)) := pe_mono (pe_un un_neg ha) fun σ H Q ⟨G, env, s, st, p⟩ => by
  refine seqE st p fun d s1 v G1 H1 e1 st1 r1 p1 => ?_
  obtain ⟨i, rfl, p2⟩ := Post.onInt p1
  cases r1
  exact ⟨i, rfl, p2 _ G1 H1 e1 st1 rfl⟩
/-! ### a + b -/
def addD : D → D → M S D := fun x y => match x, y with
  | .int i, .int j => pure (.int (i + j))
  | .str i, .str j => grd (i.length + j.length ≤ sizeLine) (pure (.str (i ++ j)))
  | .lst a, .lst b => grd (a.length + b.length ≤ sizeLine) (pure (.lst (a ++ b)))
  | .tup a, .tup b => grd (a.length + b.length ≤ sizeLine) (pure (.tup (a ++ b)))
  | _, _ => stk
def rAddS : R2 := fun x y H Q => ∃ i j, x = .str i ∧ y = .str j ∧ i.length + j.length ≤ sizeLine ∧ Q (.str (i ++ j)) H
abbrev rAddAll (K : PySem.W.Frag) : R2 := fun x y H Q => rI0 (fun i j => .int (i + j)) x y H Q ∨ rAddS x y H Q ∨ rCat x y H Q ∨ rCatA K x y H Q
theorem or_add : OpR X (binaryOp .Add) (rAddAll X.K) := OpR_or op_add (OpR_or op_add_str (OpR_or op_cat op_catA))
theorem od_add (hK : X.K = F.K) : OpD F (rAddAll X.K) addD := fun G σ H env s d e x y Q st rx ry p => by
  rw [hK]
  cases d with
  | int i =>
    cases e with
    | int j => cases rx; cases ry; exact .inl ⟨i, j, rfl, rfl, p _ G H (Ext.refl _ _ _) st rfl⟩
    | _ => exact p.elim
  | str i =>
    cases e with
    | str j =>
      cases rx; cases ry
      obtain ⟨h, p1⟩ := Post.grd p
      exact .inr (.inl ⟨i, j, rfl, rfl, h, p1 _ G H (Ext.refl _ _ _) st rfl⟩)
    | _ => exact p.elim
  | lst a =>
    cases e with
    | lst b =>
      obtain ⟨l, vs, e1, q1, z1, r1⟩ := rx
      obtain ⟨m, us, e2, q2, z2, r2⟩ := ry
      obtain ⟨h, p1⟩ := Post.grd p
      have hz : vs.length + us.length ≤ sizeLine := by rw [r1.length, r2.length]; exact h
      refine .inr (.inr (.inl ⟨l, m, vs, us, e1, e2, st.gd.gh _ _ q1, st.gd.gh _ _ q2, hz, fun q nq => ?_⟩))
      obtain ⟨e3, st3⟩ := st.new nq (.lst (vs ++ us))
      exact p1 _ _ _ e3 st3 ⟨q, _, rfl, upd_same, by rw [List.length_append]; exact hz, (r1.append r2).mono e3.g⟩
    | _ => exact p.elim
  | tup a =>
    cases e with
    | tup b =>
      obtain ⟨l, vs, e1, q1, z1, r1⟩ := rx
      obtain ⟨m, us, e2, q2, z2, r2⟩ := ry
      obtain ⟨h, p1⟩ := Post.grd p
      have hz : vs.length + us.length ≤ sizeLine := by rw [r1.length, r2.length]; exact h
      refine .inr (.inr (.inr ⟨l, m, vs, us, e1, e2, SqT.sub st.gd.gh q1, SqT.sub st.gd.gh q2, hz, fun e => ?_, fun _ e => ?_, fun _ _ q nq => ?_⟩))
      · subst e
        have ha : a = [] := List.length_eq_zero_iff.mp r1.length.symm
        subst ha
        exact p1 _ G H (Ext.refl _ _ _) st ⟨m, us, rfl, q2, z2, r2⟩
      · subst e
        have hb : b = [] := List.length_eq_zero_iff.mp r2.length.symm
        subst hb
        rw [List.append_nil] at p1
        exact p1 _ G H (Ext.refl _ _ _) st ⟨l, vs, rfl, q1, z1, r1⟩
      · obtain ⟨e3, st3⟩ := st.new nq (.tup (vs ++ us))
        exact p1 _ _ _ e3 st3 ⟨q, _, rfl, SqT.upd, by rw [List.length_append]; exact hz, (r1.append r2).mono e3.g⟩
    | _ => exact p.elim
  | _ => exact p.elim
/-! ### == of plain data -/
mutual
def pd : D → Option PyData
  | .non => some .none
  | .bl b => some (.bool b)
  | .int i => some (.int i)
  | .str x => some (.str x)
  | .lst ds => (pdL ds).map .list
  | .tup ds => (pdL ds).map .tuple
  | _ => none
def pdL : List D → Option (List PyData)
  | [] => some []
  | d :: ds => match pd d, pdL ds with
    | some a, some b => some (a :: b)
    | _, _ => none
end
mutual
theorem pd_dp {C : Cc S} {G H : Hp} (h : Same G H) : ∀ {d : D} {v : V} {a : PyData}, Rep C G d v → pd d = some a → Dp C.K H v a
  | .non, _, _, r, e => by cases r; cases e; exact .non
  | .bl _, _, _, r, e => by cases r; cases e; exact .bl _
  | .int _, _, _, r, e => by cases r; cases e; exact .int _
  | .str _, _, _, r, e => by cases r; cases e; exact .str _
  | .lst ds, _, _, ⟨l, vs, ev, q, z, r⟩, e => by
    subst ev
    unfold pd at e
    obtain ⟨as, ea, rfl⟩ := Option.map_eq_some_iff.mp e
    exact .lst (.inl (.inl (h _ _ q))) (pdL_dp h r ea)
  | .tup ds, _, _, ⟨l, vs, ev, q, z, r⟩, e => by
    subst ev
    unfold pd at e
    obtain ⟨as, ea, rfl⟩ := Option.map_eq_some_iff.mp e
    exact .tup (SqT.sub h q) (pdL_dp h r ea)
  | .dct _, _, _, _, e => nomatch e
  | .ins _ _, _, _, _, e => nomatch e
  | .exc _ _, _, _, _, e => nomatch e
  | .hnd _, _, _, _, e => nomatch e
  | .dks _, _, _, _, e => nomatch e
  | .fn _, _, _, _, e => nomatch e
  | .adr _ _, _, _, _, e => nomatch e
  | .rps _, _, _, _, e => nomatch e
  | .scr _, _, _, _, e => nomatch e
theorem pdL_dp {C : Cc S} {G H : Hp} (h : Same G H) : ∀ {ds : List D} {vs : List V} {as : List PyData}, RepL C G ds vs → pdL ds = some as → DpAll C.K H vs as
  | [], _, _, r, e => by
    have e1 : _ = [] := r
    subst e1
    cases e
    exact .nil
  | d :: ds, _, _, ⟨v, us, ev, a, b⟩, e => by
    subst ev
    unfold pdL at e
    split at e
    · rename_i x y hx hy
      cases e
      exact .cons (pd_dp h a hx) (pdL_dp h b hy)
    · cases e
end
/-- == on plain data -/
def eqP (d e : D) : Option Bool := match pd d, pd e with
  | some a, some b => if SeqAt.shaped a = true ∧ SeqAt.shaped b = true then some (PyData.eqv a b) else none
  | _, _ => none
def eqD (neg : Bool) : D → D → M S D := fun d e => match eqP d e with
  | some b => pure (.bl (if neg then !b else b))
  | none => stk
theorem od_eq (hK : X.K = F.K) : OpD F (rEqD X.K) (eqD false) := fun G σ H env s d e x y Q st rx ry p => by
  rw [hK]
  unfold eqD eqP at p
  cases hd : pd d with
  | none => simp only [hd] at p; exact p.elim
  | some a =>
    cases he : pd e with
    | none => simp only [hd, he] at p; exact p.elim
    | some b =>
      simp only [hd, he] at p
      by_cases hs : SeqAt.shaped a = true ∧ SeqAt.shaped b = true
      · rw [if_pos hs] at p
        exact ⟨a, b, pd_dp st.gd.gh rx hd, pd_dp st.gd.gh ry he, hs.1, hs.2, p _ G H (Ext.refl _ _ _) st rfl⟩
      · rw [if_neg hs] at p; exact p.elim
theorem od_ne (hK : X.K = F.K) : OpD F (rNeD X.K) (eqD true) := fun G σ H env s d e x y Q st rx ry p => by
  rw [hK]
  unfold eqD eqP at p
  cases hd : pd d with
  | none => simp only [hd] at p; exact p.elim
  | some a =>
    cases he : pd e with
    | none => simp only [hd, he] at p; exact p.elim
    | some b =>
      simp only [hd, he] at p
      by_cases hs : SeqAt.shaped a = true ∧ SeqAt.shaped b = true
      · rw [if_pos hs] at p
        exact ⟨a, b, pd_dp st.gd.gh rx hd, pd_dp st.gd.gh ry he, hs.1, hs.2, p _ G H (Ext.refl _ _ _) st rfl⟩
      · rw [if_neg hs] at p; exact p.elim
/-! ### x in xs, flat data -/
def flatD : D → Bool
  | .non => true
  | .bl _ => true
  | .int _ => true
  | .str _ => true
  | _ => false
def eqF : D → D → Bool
  | .non, .non => true
  | .bl a, .bl b => a == b
  | .bl a, .int b => (if a then 1 else 0) == b
  | .int a, .bl b => a == (if b then 1 else 0)
  | .int a, .int b => a == b
  | .str a, .str b => a == b
  | _, _ => false
theorem flat_rep {C : Cc S} {G : Hp} {d : D} {v : V} (h : flatD d = true) (r : Rep C G d v) : flatV v = true := by
  cases d <;> first | exact Bool.noConfusion h | (cases r; rfl)
theorem eqF_rep {C : Cc S} {G : Hp} {d e : D} {v u : V} (h : flatD d = true) (h' : flatD e = true) (r : Rep C G d v) (r' : Rep C G e u) : eqV v u = eqF d e := by
  cases d <;> first | exact Bool.noConfusion h | (cases e <;> first | exact Bool.noConfusion h' | (cases r; cases r'; rfl))
theorem flatL_rep {C : Cc S} {G : Hp} : ∀ {ds : List D} {vs : List V}, ds.all flatD = true → RepL C G ds vs → vs.all flatV = true
  | [], _, _, r => by
    have e1 : _ = [] := r
    subst e1; rfl
  | d :: ds, _, h, ⟨v, us, ev, a, b⟩ => by
    subst ev
    rw [List.all_cons, Bool.and_eq_true] at h
    rw [List.all_cons, flat_rep h.1 a, flatL_rep h.2 b]; rfl
theorem inF_rep {C : Cc S} {G : Hp} {d : D} {v : V} (hd : flatD d = true) (rd : Rep C G d v) : ∀ {ds : List D} {vs : List V}, ds.all flatD = true → RepL C G ds vs → inV v vs = ds.any fun y => eqF y d
  | [], _, _, r => by
    have e1 : _ = [] := r
    subst e1; rfl
  | e :: ds, _, h, ⟨u, us, ev, a, b⟩ => by
    subst ev
    rw [List.all_cons, Bool.and_eq_true] at h
    have ih := inF_rep hd rd h.2 b
    unfold inV at ih ⊢
    rw [List.any_cons, List.any_cons, eqF_rep h.1 hd a rd, ih]
def inD (neg : Bool) : D → D → M S D := fun d e => onSeq (fun ds => grd (flatD d = true ∧ ds.all flatD = true) (pure (.bl (if neg then !(ds.any fun y => eqF y d) else ds.any fun y => eqF y d)))) e
theorem od_in (neg : Bool) (hK : X.K = F.K) : OpD F (rIn X.K neg) (inD neg) := fun G σ H env s d e x y Q st rx ry p => by
  rw [hK]
  obtain ⟨ds, he, p1⟩ := p.onSeq
  obtain ⟨⟨h1, h2⟩, p2⟩ := p1.grd
  rcases he with rfl | rfl
  · obtain ⟨a, vs, rfl, q, z, r⟩ := ry
    refine ⟨a, vs, rfl, .inl (.inl (.inl (st.gd.gh _ _ q))), flat_rep h1 rx, flatL_rep h2 r, ?_⟩
    rw [inF_rep h1 rx h2 r]
    exact p2 _ G H (Ext.refl _ _ _) st rfl
  · obtain ⟨a, vs, rfl, q, z, r⟩ := ry
    refine ⟨a, vs, rfl, .inr (SqT.sub st.gd.gh q), flat_rep h1 rx, flatL_rep h2 r, ?_⟩
    rw [inF_rep h1 rx h2 r]
    exact p2 _ G H (Ext.refl _ _ _) st rfl
/-! ### xs[i] -/
def ixD : D → D → M S D := fun d e => onSeq (fun ds => onInt (fun i => match atI ds i with
  | some x => pure x
  | none => stk) e) d
theorem atI_rep {C : Cc S} {G : Hp} {ds : List D} {vs : List V} {i : Int} {d : D} (r : RepL C G ds vs) (h : atI ds i = some d) : ∃ v, atI vs i = some v ∧ Rep C G d v := by
  unfold atI at h ⊢
  rw [r.length]
  obtain ⟨j, hj, hd⟩ := Option.bind_eq_some_iff.mp h
  obtain ⟨v, hv, rv⟩ := r.get hd
  exact ⟨v, by rw [hj]; exact hv, rv⟩
theorem od_ix (hK : X.K = F.K) : OpD F (rIx X.K) ixD := fun G σ H env s d e x y Q st rx ry p => by
  rw [hK]
  obtain ⟨ds, he, p1⟩ := p.onSeq
  obtain ⟨i, rfl, p2⟩ := p1.onInt
  cases ry
  cases hi : atI ds i with
  | none => rw [hi] at p2; exact p2.elim
  | some z =>
    rw [hi] at p2
    rcases he with rfl | rfl
    · obtain ⟨a, vs, rfl, q, _, r⟩ := rx
      obtain ⟨v, hv, rv⟩ := atI_rep r hi
      exact .inl ⟨a, vs, i, v, rfl, rfl, .inl (.inl (st.gd.gh _ _ q)), hv, p2 _ G H (Ext.refl _ _ _) st rv⟩
    · obtain ⟨a, vs, rfl, q, _, r⟩ := rx
      obtain ⟨v, hv, rv⟩ := atI_rep r hi
      exact .inr (.inl ⟨a, vs, i, v, rfl, rfl, SqT.sub st.gd.gh q, hv, p2 _ G H (Ext.refl _ _ _) st rv⟩)
/-! ### slices -/
def cutD (xs : List D) (lo hi : Option Int) : List D := (xs.drop (HT.sIx xs.length 0 lo)).take (HT.sIx xs.length xs.length hi - HT.sIx xs.length 0 lo)
theorem RepL.drop {C : Cc S} {G : Hp} : ∀ (n : Nat) {ds : List D} {vs : List V}, RepL C G ds vs → RepL C G (ds.drop n) (vs.drop n)
  | 0, _, _, r => r
  | n + 1, [], _, r => by
    have e1 : _ = [] := r
    subst e1; rfl
  | n + 1, _ :: _, _, ⟨v, us, ev, a, b⟩ => by subst ev; exact b.drop n
theorem RepL.take {C : Cc S} {G : Hp} : ∀ (n : Nat) {ds : List D} {vs : List V}, RepL C G ds vs → RepL C G (ds.take n) (vs.take n)
  | 0, _, _, _ => rfl
  | n + 1, [], _, r => by
    have e1 : _ = [] := r
    subst e1; rfl
  | n + 1, _ :: _, _, ⟨v, us, ev, a, b⟩ => by subst ev; exact ⟨v, us.take n, rfl, a, b.take n⟩
theorem RepL.cut {C : Cc S} {G : Hp} {ds : List D} {vs : List V} (r : RepL C G ds vs) (lo hi : Option Int) : RepL C G (cutD ds lo hi) (cutV vs lo hi) := by
  unfold cutD cutV
  rw [r.length]
  exact (r.drop _).take _
def tO (F : Fx S) (τ : Env → M S (Option Int)) : TO := fun σ H Q => ∃ G env s, StG F G σ H env s ∧
  Post F G H (τ env s) fun d s' => ∀ G' H', Ext F.reg G H G' H' → StG F G' σ H' env s' → Q d H'
def oNone : Env → M S (Option Int) := fun _ => pure none
def oSome (τ : Env → M S D) : Env → M S (Option Int) := fun env => do onInt (fun i => pure (some i)) (← τ env)
theorem po_mono {e : Option Expr} {t t' : TO} (h : PO X e t) (m : ∀ σ H Q, t' σ H Q → t σ H Q) : PO X e t' := ⟨fun pins s σ H Q I q => h.run pins s σ H Q I (m σ H Q q)⟩
theorem do_none : PO X none (tO F oNone) := po_mono po_none fun σ H Q ⟨G, env, s, st, p⟩ => p G H (Ext.refl _ _ _) st
theorem do_some {e : Expr} {τ : Env → M S D} (h : PE X e (tE F τ)) : PO X (some e) (tO F (oSome τ)) := po_mono (po_some h) fun σ H Q ⟨G, env, s, st, p⟩ => by
  refine seqE st p fun d s1 v G1 H1 e1 st1 r1 p1 => ?_
  obtain ⟨i, rfl, p2⟩ := Post.onInt p1
  cases r1
  exact ⟨i, rfl, p2 G1 H1 e1 st1⟩
def slcD (τ : Env → M S D) (lo hi : Env → M S (Option Int)) : Env → M S D := fun env => do
  let d ← τ env
  let l ← lo env
  let h ← hi env
  match d with
  | .lst ds => pure (.lst (cutD ds l h))
  | .tup ds => pure (.tup (cutD ds l h))
  | _ => stk
theorem seqO {α : Type} {τ : Env → M S (Option Int)} {k : Option Int → S → Res S α} {G H : Hp} {σ : L2.St} {env : Env} {s : S} {P : α → S → Prop} {Q : Option Int → Hp → Prop} (st : StG F G σ H env s) (p : Post F G H ((τ env s).bind k) P)
    (h : ∀ b s1 G1 H1, Ext F.reg G H G1 H1 → StG F G1 σ H1 env s1 → Post F G1 H1 (k b s1) P → Q b H1) : tO F τ σ H Q :=
  ⟨G, env, s, st, p.bind.mono fun d s1 _ hk G1 H1 e1 st1 => h d s1 G1 H1 e1 st1 (hk.later e1.g)⟩
theorem de_slice {e : Expr} {lo hi : Option Expr} {p2 pos : Pos} {τ : Env → M S D} {l h : Env → M S (Option Int)} (hK : X.K = F.K) (he : PE X e (tE F τ)) (hl : PO X lo (tO F l)) (hu : PO X hi (tO F h)) : PE X (.Subscript e (.Slice lo hi none p2) pos) (tE F (slcD τ l h)) :=
  pe_mono (pe_slice (sl_list.or sl_tupA) he hl hu) fun σ H Q ⟨G, env, s, st, p⟩ => by
    refine seqE st p fun d s1 v G1 H1 e1 st1 r1 p1 => ?_
    refine seqO st1 p1 fun l s2 G2 H2 e2 st2 p2 => ?_
    refine seqO st2 p2 fun h s3 G3 H3 e3 st3 p3 => ?_
    have r3 := r1.mono (e2.trans e3).g
    have e13 := (e1.trans e2).trans e3
    rw [hK]
    cases d with
    | lst ds =>
      obtain ⟨a, vs, rfl, q, z, r⟩ := r3
      refine .inl ⟨a, vs, rfl, .inl (.inl (st3.gd.gh _ _ q)), fun q nq => ?_⟩
      obtain ⟨e4, st4⟩ := st3.new nq (.lst (cutV vs l h))
      exact p3 _ _ _ (e13.trans e4) st4 ⟨q, _, rfl, upd_same, Nat.le_trans (cutV_length _ _ _) z, (r.cut l h).mono e4.g⟩
    | tup ds =>
      obtain ⟨a, vs, rfl, q, z, r⟩ := r3
      refine .inr ⟨a, vs, rfl, SqT.sub st3.gd.gh q, fun hw => ?_, fun _ q nq => ?_⟩
      · have ec : cutV vs l h = vs := by
          unfold cutV
          rw [hw.1, hw.2, List.drop_zero, Nat.sub_zero, List.take_length]
        have rc := r.cut l h
        rw [ec] at rc
        exact p3 _ G3 H3 e13 st3 ⟨a, vs, rfl, q, z, rc⟩
      · obtain ⟨e4, st4⟩ := st3.new nq (.tup (cutV vs l h))
        exact p3 _ _ _ (e13.trans e4) st4 ⟨q, _, rfl, SqT.upd, Nat.le_trans (cutV_length _ _ _) z, (r.cut l h).mono e4.g⟩
    | _ => exact p3.elim
/-! ### built-ins -/
def lenD : List D → M S D := a1 fun d => match d with
  | .str x => grd (x.length ≤ sizeLine) (pure (.int x.length))
  | .lst ds => pure (.int ds.length)
  | .tup ds => pure (.int ds.length)
  | .scr ns => pure (.int ns.length)
  | _ => stk
theorem cd_len (hK : X.K = F.K) : CallD F (fun xs H Q => ∃ x n, xs = [x] ∧ LenV X.K x H n ∧ Q (.int n) H) lenD := fun G σ H env s ds vs Q st r p => by
  rw [hK]
  obtain ⟨d, rfl, p1⟩ := p.a1
  obtain ⟨v, rfl, rv⟩ := r.r1
  cases d with
  | str x =>
    cases rv
    obtain ⟨h, p2⟩ := Post.grd p1
    exact ⟨_, _, rfl, ⟨h, rfl⟩, p2 _ G H (Ext.refl _ _ _) st rfl⟩
  | lst ds =>
    obtain ⟨a, us, rfl, q, z, rl⟩ := rv
    exact ⟨_, _, rfl, .inl ⟨us, .inl (.inl (st.gd.gh _ _ q)), rl.length.symm⟩, p1 _ G H (Ext.refl _ _ _) st rfl⟩
  | tup ds =>
    obtain ⟨a, us, rfl, q, z, rl⟩ := rv
    exact ⟨_, _, rfl, .inr ⟨us, SqT.sub st.gd.gh q, rl.length.symm⟩, p1 _ G H (Ext.refl _ _ _) st rfl⟩
  | scr ns =>
    obtain ⟨a, rfl, q⟩ := rv
    exact ⟨_, _, rfl, .inl ⟨_, st.gd.gh.seq q, by rw [List.length_map]⟩, p1 _ G H (Ext.refl _ _ _) st rfl⟩
  | _ => exact p1.elim
def absD : List D → M S D := a1 fun d => onInt (fun i => pure (.int (if i < 0 then -i else i))) d
theorem cd_abs : CallD F (fun xs H Q => ∃ i, xs = [.int i] ∧ Q (.int (if i < 0 then -i else i)) H) absD := fun G σ H env s ds vs Q st r p => by
  obtain ⟨d, rfl, p1⟩ := p.a1
  obtain ⟨i, rfl, p2⟩ := p1.onInt
  obtain ⟨v, rfl, rv⟩ := r.r1
  cases rv
  exact ⟨i, rfl, p2 _ G H (Ext.refl _ _ _) st rfl⟩
def int1D : List D → M S D := a1 fun d => match d with
  | .int i => pure (.int i)
  | .bl k => pure (.int (if k then 1 else 0))
  | _ => stk
theorem cd_int1 : CallD F (fun xs H Q => (∃ i, xs = [.int i] ∧ Q (.int i) H) ∨ ∃ k, xs = [.bl k] ∧ Q (.int (if k then 1 else 0)) H) int1D := fun G σ H env s ds vs Q st r p => by
  obtain ⟨d, rfl, p1⟩ := p.a1
  obtain ⟨v, rfl, rv⟩ := r.r1
  cases d with
  | int i => cases rv; exact .inl ⟨i, rfl, p1 _ G H (Ext.refl _ _ _) st rfl⟩
  | bl k => cases rv; exact .inr ⟨k, rfl, p1 _ G H (Ext.refl _ _ _) st rfl⟩
  | _ => exact p1.elim
def min2D : List D → M S D := a2 fun d e => onInt (fun i => onInt (fun j => pure (.int (if j < i then j else i))) e) d
theorem cd_min2 : CallD F (fun xs H Q => ∃ i j, xs = [.int i, .int j] ∧ Q (.int (if j < i then j else i)) H) min2D := fun G σ H env s ds vs Q st r p => by
  obtain ⟨d, e, rfl, p1⟩ := p.a2
  obtain ⟨i, rfl, p2⟩ := p1.onInt
  obtain ⟨j, rfl, p3⟩ := p2.onInt
  obtain ⟨v, w, rfl, rv, rw_⟩ := r.r2
  cases rv
  cases rw_
  exact ⟨i, j, rfl, p3 _ G H (Ext.refl _ _ _) st rfl⟩
def listD : List D → M S D := a1 (onSeq fun ds => pure (.lst ds))
theorem cd_list (hK : X.K = F.K) : CallD F (fun xs H Q => ∃ p ys, xs = [.ref p] ∧ (SqL X.K H p ys ∨ SqT X.K H p ys) ∧ ∀ l, H l = none → Q (.ref l) (upd H l (.lst ys))) listD := fun G σ H env s ds vs Q st r p => by
  rw [hK]
  obtain ⟨d, rfl, p1⟩ := p.a1
  obtain ⟨v, rfl, rv⟩ := r.r1
  obtain ⟨ds, hd, p2⟩ := p1.onSeq
  rcases hd with rfl | rfl
  · obtain ⟨a, us, rfl, q, z, rl⟩ := rv
    refine ⟨a, us, rfl, .inl (.inl (.inl (st.gd.gh _ _ q))), fun q nq => ?_⟩
    obtain ⟨e4, st4⟩ := st.new nq (.lst us)
    exact p2 _ _ _ e4 st4 ⟨q, us, rfl, upd_same, z, rl.mono e4.g⟩
  · obtain ⟨a, us, rfl, q, z, rl⟩ := rv
    refine ⟨a, us, rfl, .inr (SqT.sub st.gd.gh q), fun q nq => ?_⟩
    obtain ⟨e4, st4⟩ := st.new nq (.lst us)
    exact p2 _ _ _ e4 st4 ⟨q, us, rfl, upd_same, z, rl.mono e4.g⟩
def tupleD : List D → M S D := a1 (onSeq fun ds => pure (.tup ds))
theorem cd_tuple (hK : X.K = F.K) : CallD F (fun xs H Q => ∃ p ys, xs = [.ref p] ∧ ((SqL X.K H p ys ∧ ∀ l, H l = none → Q (.ref l) (upd H l (.tup ys))) ∨ (SqT X.K H p ys ∧ Q (.ref p) H))) tupleD := fun G σ H env s ds vs Q st r p => by
  rw [hK]
  obtain ⟨d, rfl, p1⟩ := p.a1
  obtain ⟨v, rfl, rv⟩ := r.r1
  obtain ⟨ds, hd, p2⟩ := p1.onSeq
  rcases hd with rfl | rfl
  · obtain ⟨a, us, rfl, q, z, rl⟩ := rv
    refine ⟨a, us, rfl, .inl ⟨.inl (.inl (st.gd.gh _ _ q)), fun q nq => ?_⟩⟩
    obtain ⟨e4, st4⟩ := st.new nq (.tup us)
    exact p2 _ _ _ e4 st4 ⟨q, us, rfl, SqT.upd, z, rl.mono e4.g⟩
  · obtain ⟨a, us, rfl, q, z, rl⟩ := rv
    exact ⟨a, us, rfl, .inr ⟨SqT.sub st.gd.gh q, p2 _ G H (Ext.refl _ _ _) st ⟨a, us, rfl, q, z, rl⟩⟩⟩
/-- a list of bools, of ints -/
def blsD : List D → Option (List Bool)
  | [] => some []
  | .bl b :: ds => (blsD ds).map (b :: ·)
  | _ => none
def intsD : List D → Option (List Int)
  | [] => some []
  | .int b :: ds => (intsD ds).map (b :: ·)
  | _ => none
theorem blsD_rep {C : Cc S} {G : Hp} : ∀ {ds : List D} {vs : List V} {bs : List Bool}, RepL C G ds vs → blsD ds = some bs → vs = bs.map V.bl := fun {ds} => by
  induction ds with
  | nil => intro vs bs r e; cases e; exact r
  | cons d ds ih =>
    rintro vs bs ⟨v, us, ev, a, q⟩ e
    cases d with
    | bl b =>
      have e : (blsD ds).map (b :: ·) = some bs := e
      obtain ⟨as, ea, rfl⟩ := Option.map_eq_some_iff.mp e
      subst ev
      cases a
      rw [ih q ea]; rfl
    | _ => cases (show (none : Option _) = some _ from e)
theorem intsD_rep {C : Cc S} {G : Hp} : ∀ {ds : List D} {vs : List V} {bs : List Int}, RepL C G ds vs → intsD ds = some bs → vs = bs.map V.int := fun {ds} => by
  induction ds with
  | nil => intro vs bs r e; cases e; exact r
  | cons d ds ih =>
    rintro vs bs ⟨v, us, ev, a, q⟩ e
    cases d with
    | int b =>
      have e : (intsD ds).map (b :: ·) = some bs := e
      obtain ⟨as, ea, rfl⟩ := Option.map_eq_some_iff.mp e
      subst ev
      cases a
      rw [ih q ea]; rfl
    | _ => cases (show (none : Option _) = some _ from e)
theorem intsD_of (ns : List Int) : intsD (ns.map D.int) = some ns := by
  induction ns with
  | nil => rfl
  | cons n ns ih => show (intsD (ns.map D.int)).map (n :: ·) = _; rw [ih]; rfl
theorem blsD_of (ns : List Bool) : blsD (ns.map D.bl) = some ns := by
  induction ns with
  | nil => rfl
  | cons n ns ih => show (blsD (ns.map D.bl)).map (n :: ·) = _; rw [ih]; rfl
theorem RepL.ints {C : Cc S} {G : Hp} : ∀ (ns : List Int), RepL C G (ns.map D.int) (ns.map V.int)
  | [] => rfl
  | n :: ns => ⟨_, _, rfl, rfl, RepL.ints ns⟩
def allD (any : Bool) : List D → M S D := a1 (onLst fun ds => match blsD ds with
  | some bs => pure (.bl (if any then bs.any id else bs.all id))
  | none => stk)
theorem cd_all (hK : X.K = F.K) : CallD F (rAll X.K) (allD false) := fun G σ H env s ds vs Q st r p => by
  rw [hK]
  obtain ⟨d, rfl, p1⟩ := p.a1
  obtain ⟨v, rfl, rv⟩ := r.r1
  obtain ⟨ds, rfl, p2⟩ := p1.onLst
  obtain ⟨a, us, rfl, q, z, rl⟩ := rv
  cases hb : blsD ds with
  | none => rw [hb] at p2; exact p2.elim
  | some bs =>
    rw [hb] at p2
    have e := blsD_rep rl hb
    subst e
    exact ⟨a, bs, rfl, .inl (.inl (st.gd.gh _ _ q)), p2 _ G H (Ext.refl _ _ _) st rfl⟩
/-- sorted, of ints -/
def srt (ns : List Int) : List Int := ns.mergeSort (fun a b => decide (a ≤ b))
theorem srt_perm (ns : List Int) : (srt ns).Perm ns := List.mergeSort_perm _ _
theorem srt_sorted (ns : List Int) : (srt ns).Pairwise (· ≤ ·) := by
  have h := List.pairwise_mergeSort (le := fun (a b : Int) => decide (a ≤ b)) (fun a b c h1 h2 => by simp at *; omega) (fun a b => by simp; omega) ns
  exact h.imp fun {a b} h => by simpa using h
theorem sorted_unique : ∀ {xs ys : List Int}, xs.Perm ys → xs.Pairwise (· ≤ ·) → ys.Pairwise (· ≤ ·) → xs = ys := fun {xs ys} h h1 h2 =>
  h.eq_of_pairwise (fun a b _ _ h3 h4 => Int.le_antisymm h3 h4) h1 h2
/-- len(set(xs)), of ints -/
def dedup (ns : List Int) : List Int := ns.foldl step_dedup []
def lenSetI : D → M S D := onLst fun ds => match intsD ds with
  | some ns => grd (ns.length ≤ 4000) (pure (.int (dedup ns).length))
  | none => stk
def lenSetD (τ : Env → M S D) : Env → M S D := fun env => do lenSetI (← τ env)
theorem firstMet_all (ns : List Int) : firstMet (fun i => ns.getD i 0) ns.length = dedup ns := by
  unfold firstMet dedup
  congr 1
  apply List.ext_getElem?
  intro i
  rw [List.getElem?_map]
  by_cases h : i < ns.length
  · rw [List.getElem?_range h, List.getElem?_eq_getElem h]; simp [h]
  · rw [List.getElem?_eq_none (by simpa using h), List.getElem?_eq_none (by omega)]; rfl
def tLenSet (K : PySem.W.Frag) (ta : TE) : TE := fun σ H Q => ta σ H fun x H1 => ∃ (l : Addr) (ns : List Int), x = .ref l ∧ SqL K H1 l (ns.map V.int) ∧ ns.length ≤ 4000 ∧ Q (.int (dedup ns).length) H1
theorem pe_lenSet {a : Expr} {ta : TE} {p p2 q pos : Pos} (hg : Gl X "len") (hm : X.mg "len" = none) (hg2 : Gl X "set") (hm2 : X.mg "set" = none) (ha : PE X a ta) (hc : X.calm = true := by rfl)
    (na : starEach [a] X.env = (false, eval a X.env) :: starEach [] X.env := by rfl) : PE X (.Call (.Name "len" p) [.Call (.Name "set" p2) [a] [] q] [] pos) (tLenSet X.K ta) := by
  refine ⟨fun pins s σ H Q I h => ?_⟩
  refine Call_ (ld_blt I hg hm boot_len ?_)
  refine PyProof.Rows.callWith_builtin1 (PyProof.Rows.args_cons ?_ rfl) rfl rfl
  refine Call_ (ld_blt I hg2 hm2 boot_set ?_)
  refine PyProof.Rows.callWith_type1 (PyProof.Rows.args_cons (thn (ha.run pins s σ H _ I h) fun v s1 ⟨x, H1, I1, r1, q1⟩ => PyProof.Rows.args_nil ?_) na) na rfl
  obtain ⟨l, ns, rfl, hq, hl, q1⟩ := q1
  cases r1
  obtain ⟨its, r, pl, hz⟩ := I1.list hq
  have hlen : its.toArray.size = ns.length := by rw [List.size_toArray, ← r.length, List.length_map]
  refine call_set_list (I1.ok.hd hc) pl.isList (by simpa using RZ.intsAre_vals r) (by rw [hlen]; unfold scanBound; omega) fun h' tk hS hk => ?_
  refine PyProof.Rows.args_nil ?_
  rw [hlen, firstMet_all] at hS
  have hdl : (dedup ns).length ≤ ns.length := by rw [← firstMet_all]; exact firstMet_length_le _ _
  obtain ⟨o, es, ep, t, ho, hex, hd, _, _, _, hf, hn⟩ := hS
  have I2 : Inv X pins σ H1 { s1 with heap := h', toks := tk } := I1.kept fun b o e => hk b o (Heap.lt_size e) e
  exact call_len_set ho hex hd hf (by rw [hn]; omega) ⟨.int (dedup ns).length, H1, I2.tok _, ⟨_, by rw [hn]⟩, q1⟩
theorem de_lenSet {a : Expr} {τ : Env → M S D} {p p2 q pos : Pos} (hK : X.K = F.K) (hg : Gl X "len") (hm : X.mg "len" = none) (hg2 : Gl X "set") (hm2 : X.mg "set" = none) (ha : PE X a (tE F τ)) (hc : X.calm = true := by rfl)
    (na : starEach [a] X.env = (false, eval a X.env) :: starEach [] X.env := by rfl) : PE X (.Call (.Name "len" p) [.Call (.Name "set" p2) [a] [] q] [] pos) (tE F (lenSetD τ)) := pe_mono (pe_lenSet hg hm hg2 hm2 ha hc na) fun σ H Q ⟨G, env, s, st, p⟩ => by
  rw [hK]
  refine seqE st p fun d s1 v G1 H1 e1 st1 r1 p1 => ?_
  obtain ⟨ds, rfl, p2⟩ := Post.onLst p1
  obtain ⟨a, us, rfl, q, z, rl⟩ := r1
  cases hb : intsD ds with
  | none => rw [hb] at p2; exact p2.elim
  | some bs =>
    rw [hb] at p2
    obtain ⟨h, p3⟩ := Post.grd p2
    have e := intsD_rep rl hb
    subst e
    exact ⟨a, bs, rfl, .inl (.inl (st1.gd.gh _ _ q)), h, p3 _ G1 H1 e1 st1 rfl⟩
end DL
set_option Elab.async false
set_option linter.all false
set_option maxRecDepth 100000
set_option maxHeartbeats 4000000
set_option autoImplicit false
namespace PySem.W
open PySem PySem.Calls PyProof.Rows Builtin
end PySem.W
set_option Elab.async false
set_option linter.all false
set_option maxRecDepth 100000
set_option maxHeartbeats 4000000
set_option autoImplicit false
namespace DL
open PySem PySem.Spec PyProof.Rows L2
variable {S : Type} {X : Cx} {F : Fx S}
/-! ### operators of an own class -/
/-! ### .. over data -/
section
variable {n : Nat} {sem : List D → M S D} {c : Str} {C : Addr}
def opOwn (c : Str) (sem : List D → M S D) : D → D → M S D := fun x y => onIns (fun c1 _ => onIns (fun c2 _ => grd (c1 = c ∧ c2 = c) (sem [x, y])) y) x
/-- two readings, by what the operands are -/
def orD (f g : D → D → M S D) (isF : D → D → Bool) : D → D → M S D := fun x y => if isF x y then f x y else g x y
end
def isIns : D → Bool
  | .ins _ _ => true
  | _ => false
/-! ### isinstance -/
def tyNames : List Str := ["NoneType", "bool", "int", "str", "list", "tuple", "dict"]
def tagD : D → Option Str
  | .non => some "NoneType"
  | .bl _ => some "bool"
  | .int _ => some "int"
  | .str _ => some "str"
  | .lst _ => some "list"
  | .tup _ => some "tuple"
  | .dct _ => some "dict"
  | .ins c _ => if c ∈ tyNames then none else some c
  | .adr _ (.ins c _) => if c ∈ tyNames then none else some c
  | _ => none
/-- what isinstance asks of the class at C -/
structure InsOk (K : PySem.W.Frag) (C : Addr) : Prop where
  cl : Cls K C
  ca : PySem.W.findIn K (.ref C) "__class__" = some (some (.builtin "object.__class__"))
  cn : PySem.W.specialIn K (.builtin "object.__class__") "__get__" = some (some (.builtin "getset_descriptor.__get__"))
  ct : PySem.W.takesIn K (.builtin "object.__class__") = some true
  cm : PySem.W.mroIn K C (.type "object") = some true
def isiD (tb : Str → Option Bool) : D → M S D := fun d => match (tagD d).bind tb with
  | some b => pure (.bl b)
  | none => stk
/-- the answers of a table are the library's: t a type's name, or a class's -/
structure KitOk (K : PySem.W.Frag) (cad : Str → Addr) (an : Value → Option Bool) (tb : Str → Option Bool) : Prop where
  bt : ∀ t ∈ (["NoneType", "bool", "int", "str", "list", "tuple", "dict"] : List String), ∀ b, tb (Str.ofString t) = some b → an (.type t) = some b
  own : ∀ c b, tb c = some b → c ∉ tyNames → InsOk K (cad c) ∧ an (.ref (cad c)) = some b
theorem ty_of {an : Value → Option Bool} {tb : Str → Option Bool} {G H : Hp} {d : D} {v : V} {b : Bool} (kt : KitOk F.K F.cad an tb) (hgh : Same G H) (r : Rep F.toCc G d v) (h : (tagD d).bind tb = some b) :
    ∃ t, TyX F.K H v t ∧ an t = some b := by
  cases d with
  | non => cases r; exact ⟨_, .base .non, kt.bt _ (by simp) b h⟩
  | bl _ => cases r; exact ⟨_, .base (.bl _), kt.bt _ (by simp) b h⟩
  | int _ => cases r; exact ⟨_, .base (.int _), kt.bt _ (by simp) b h⟩
  | str _ => cases r; exact ⟨_, .base (.str _), kt.bt _ (by simp) b h⟩
  | lst _ =>
    obtain ⟨a, vs, rfl, q, _, _⟩ := r
    exact ⟨_, .base (.lst (hgh _ _ q)), kt.bt "list" (by simp) b h⟩
  | tup _ =>
    obtain ⟨a, vs, rfl, q, _, _⟩ := r
    rcases q with (q | ⟨o, q⟩) | ⟨o, its, n, q, ec, _⟩
    · exact ⟨_, .base (.tup (hgh _ _ q)), kt.bt "tuple" (by simp) b h⟩
    · exact ⟨_, .fTuple (hgh _ _ q), kt.bt "tuple" (by simp) b h⟩
    · exact ⟨_, .kTuple q ec, kt.bt "tuple" (by simp) b h⟩
  | dct _ =>
    obtain ⟨a, vs, rfl, q, _⟩ := r
    exact ⟨_, .base (.dK (hgh _ _ q)), kt.bt "dict" (by simp) b h⟩
  | ins c fs =>
    obtain ⟨a, dx, vs, rfl, q, _, _⟩ := r
    have hc : c ∉ tyNames := fun z => by
      have h : (if c ∈ tyNames then (none : Option Str) else some c).bind tb = some b := h
      rw [if_pos z] at h; cases h
    have h : (if c ∈ tyNames then (none : Option Str) else some c).bind tb = some b := h
    rw [if_neg hc] at h
    obtain ⟨i, e⟩ := kt.own c b h hc
    exact ⟨_, .base (.ins (hgh _ _ q) i.cl i.ca i.cn i.ct i.cm), e⟩
  | adr a' d' =>
    cases d' with
    | ins c fs =>
      obtain ⟨rfl, a, dx, vs, e1, q, _, _⟩ := r
      cases e1
      have hc : c ∉ tyNames := fun z => by
        have h : (if c ∈ tyNames then (none : Option Str) else some c).bind tb = some b := h
        rw [if_pos z] at h; cases h
      have h : (if c ∈ tyNames then (none : Option Str) else some c).bind tb = some b := h
      rw [if_neg hc] at h
      obtain ⟨i, e⟩ := kt.own c b h hc
      exact ⟨_, .base (.ins (hgh _ _ q) i.cl i.ca i.cn i.ct i.cm), e⟩
    | _ => cases h
  | _ => cases h
end DL
set_option Elab.async false
set_option linter.all false
set_option maxRecDepth 100000
set_option maxHeartbeats 4000000
set_option autoImplicit false
namespace DL
open PySem PySem.Spec PyProof.Rows L2
/-! ### isinstance, written -/
section
variable {S : Type} {X : Cx} {F : Fx S} {e T : Expr} {p pos : Pos} {τ : Env → M S D} {tb : Str → Option Bool}
def isi (tb : Str → Option Bool) (τ : Env → M S D) : Env → M S D := fun env => do isiD tb (← τ env)
theorem isiD_ok {G H : Hp} {d : D} {s : S} {P : D → S → Prop} (q : Post F G H (isiD tb d s) P) : ∃ b, (tagD d).bind tb = some b ∧ P (.bl b) s := by
  unfold isiD at q
  cases h : (tagD d).bind tb with
  | none => rw [h] at q; exact q.elim
  | some b => rw [h] at q; exact ⟨b, rfl, q⟩
theorem de_isi {c : V} {u : Value} (hK : X.K = F.K) (kt : KitOk F.K F.cad (fun t => PySem.W.kitOne F.K t u) tb) (hc : ClsV c u) (ha : PE X e (tE F τ)) (hT : PE X T (tC c)) (hg : Gl X "isinstance") (hm : X.mg "isinstance" = none)
    (he : starEach [e, T] X.env = (false, eval e X.env) :: starEach [T] X.env := by rfl) (he2 : starEach [T] X.env = (false, eval T X.env) :: starEach [] X.env := by rfl) (hpl : (backTo pos (starEach [T] X.env)).any (·.1) = false := by rfl) :
    PE X (.Call (.Name "isinstance" p) [e, T] [] pos) (tE F (isi tb τ)) :=
  pe_mono (pe_callB call_isi hg hm (by decide +kernel) (pa_cons ha (pa_cons hT pa_nil he2) he) (by decide) (by decide) he hpl) fun σ H Q ⟨G, env, s, st, p⟩ => by
    refine seqE st p fun d s1 v G1 H1 e1 st1 r1 p1 => ?_
    obtain ⟨b, hb, p2⟩ := isiD_ok p1
    obtain ⟨t, ht, ha⟩ := ty_of kt st1.gd.gh r1 hb
    rw [hK]
    exact ⟨v, c, t, u, b, rfl, hc, ht, ha, p2 _ G1 H1 e1 st1 rfl⟩
/-- isinstance(e, (T, U)) -/
theorem de_isi2 {U : Expr} {c c' : V} {u u' : Value} {k : Nat} {p2 : Pos} (hK : X.K = F.K) (kt : KitOk F.K F.cad (fun t => PySem.W.kitAny F.K t [u, u']) tb) (hc : ClsV c u) (hc' : ClsV c' u') (ha : PE X e (tE F τ)) (hT : PE X T (tC c)) (hU : PE X U (tC c')) (hg : Gl X "isinstance") (hm : X.mg "isinstance" = none)
    (hs1 : starEach [T, U] X.env = (false, eval T X.env) :: starEach [U] X.env := by rfl) (hs2 : starEach [U] X.env = (false, eval U X.env) :: starEach [] X.env := by rfl)
    (he : starEach [e, .Tuple [T, U] k p2] X.env = (false, eval e X.env) :: starEach [.Tuple [T, U] k p2] X.env := by rfl) (he2 : starEach [.Tuple [T, U] k p2] X.env = (false, eval (.Tuple [T, U] k p2) X.env) :: starEach [] X.env := by rfl) (hpl : (backTo pos (starEach [.Tuple [T, U] k p2] X.env)).any (·.1) = false := by rfl) :
    PE X (.Call (.Name "isinstance" p) [e, .Tuple [T, U] k p2] [] pos) (tE F (isi tb τ)) :=
  pe_mono (pe_callB call_isiT hg hm (by decide +kernel) (pa_cons ha (pa_cons (pe_tup (pa_cons hT (pa_cons hU pa_nil hs2) hs1)) pa_nil he2) he) (by decide) (by decide) he hpl) fun σ H Q ⟨G, env, s, st, p⟩ => by
    refine seqE st p fun d s1 v G1 H1 e1 st1 r1 p1 => ?_
    obtain ⟨b, hb, p2⟩ := isiD_ok p1
    refine ⟨by show 2 ≤ sizeLine; decide, fun q nq => ?_⟩
    obtain ⟨g2, e2⟩ := st1.gd.open_ nq (.tup [c, c'])
    have st2 := st1.ext' e2 g2
    obtain ⟨t, ht, ha⟩ := ty_of kt st2.gd.gh (r1.mono e2.g) hb
    rw [hK]
    exact ⟨v, q, [c, c'], t, [u, u'], b, rfl, upd_same, .cons hc (.cons hc' .nil), ht, ha, p2 _ G1 _ (e1.trans e2) st2 rfl⟩
end
/-! ### the world of the draws -/
structure DrS where
  wide : List Int
  left : Int
  turn : Int
structure RepDr (dp wl cl : Addr) (cells : List Int) (s : DrS) (H : Hp) : Prop where
  d : H dp = some (.dK [(.inr "wide", .ref wl), (.inr "left", .int s.left), (.inr "cells", .ref cl), (.inr "turn", .int s.turn)])
  w : H wl = some (.lst (s.wide.map V.int))
  c : H cl = some (.lst (cells.map V.int))
structure DrF (F : Fx DrS) (dp wl cl : Addr) (cells : List Int) : Prop where
  h0 : F.hnd 0 = .ref dp
  h1 : F.hnd 1 = .ref wl
  h2 : F.hnd 2 = .ref cl
  rep : ∀ s H, F.rep s H → RepDr dp wl cl cells s H
  put : ∀ s s' H a o o', F.rep s H → F.reg a → H a = some o' → ¬ Fixd o' → RepDr dp wl cl cells s' (upd H a o) → F.rep s' (upd H a o)
  reg : ∀ a, F.reg a ↔ a = dp ∨ a = wl ∨ a = cl
  dw : dp ≠ wl
  dc : dp ≠ cl
  wc : wl ≠ cl
/-- a code object is no dict -/
theorem codeO_ne_kso {c a : Addr} {q : Str} {xs : List (KK × V)} : LamX.CodeO c q ≠ KSO a xs := fun z => by
  injection z with z
  have e := congrFun z ⟨Array.replicate (c + 1) { cls := .none, data := .fields #[.none, .str q 0] }, {}⟩
  have hget : ∀ b o, Heap.get? ⟨Array.replicate (c + 1) { cls := .none, data := .fields #[.none, .str q 0] }, {}⟩ b = some o → o = { cls := .none, data := .fields #[.none, .str q 0] } := fun b o h => by
    unfold Heap.get? at h
    by_cases hb : b < c + 1
    · simp [Array.getElem?_replicate, hb] at h; exact h.symm
    · simp [Array.getElem?_replicate, hb] at h
  have l : ∃ (oc : Obj) (vs : Array Value) (t : Tok), Heap.get? ⟨Array.replicate (c + 1) { cls := .none, data := .fields #[.none, .str q 0] }, {}⟩ c = some oc ∧ oc.data = .fields vs ∧ vs[1]? = some (.str q t) :=
    ⟨{ cls := .none, data := .fields #[.none, .str q 0] }, #[.none, .str q 0], 0, by unfold Heap.get?; simp [Array.getElem?_replicate], rfl, rfl⟩
  rw [e] at l
  obtain ⟨_, _, _, _, o, _, _, ho, _, hd, _⟩ := l
  rw [hget _ _ ho] at hd
  cases hd
theorem tabs_keep {T : List (Addr × Str)} {H H' : Hp} (h : ∀ a o, H a = some o → Fixd o → H' a = some o) (t : LamX.Tabs T H) : LamX.Tabs T H' := fun p hp => by
  obtain ⟨ps, h1, h2, h3⟩ := t p hp
  refine ⟨ps, h _ _ h1 trivial, h2, fun pos cv hc => ?_⟩
  obtain ⟨c, e1, e2⟩ := h3 pos cv hc
  exact ⟨c, e1, h _ _ e2 fun _ _ => codeO_ne_kso⟩
/-- classes as values -/
def clsN : Nat → Str
  | 3 => "Rhythm"
  | _ => "Script"
-- what the draws and the tables are told of
/-- what the law's lambdas are: their objects, their name; the texts of instances -/
structure LamI where
  fno : Nat → Addr → Addr → HO := fun _ _ _ => .tbl #[]
  fnq : Str := ""
  rtx : D → Option Str := fun _ => none
def drawCcL (L : LamI) (K : PySem.W.Frag) (cad : Str → Addr) (dp wl cl : Addr) (cells : List Int) (T : List (Addr × Str)) : Cc DrS where
  fno := L.fno
  fnq := L.fnq
  rtx := L.rtx
  K := K
  cad := cad
  hnd := fun n => if n = 0 then .ref dp else if n = 1 then .ref wl else if n = 2 then .ref cl else .ref (cad (clsN n))
  rep := fun s H => RepDr dp wl cl cells s H ∧ LamX.Tabs T H
  reg := fun a => a = dp ∨ a = wl ∨ a = cl
  frame := fun s H H' h ⟨r, t⟩ => ⟨⟨h _ _ r.d (.inl (.inl rfl)), h _ _ r.w (.inl (.inr (.inl rfl))), h _ _ r.c (.inl (.inr (.inr rfl)))⟩, tabs_keep (fun a o e f => h a o e (.inr f)) t⟩
  there := fun s H a ⟨r, _⟩ h => by
    rcases h with h | h | h
    · subst h; exact ⟨_, r.d⟩
    · subst h; exact ⟨_, r.w⟩
    · subst h; exact ⟨_, r.c⟩
section
variable {X : Cx} {F : Fx DrS} {dp wl cl : Addr} {cells : List Int}
/-- the world is written -/
theorem DrF.write (R : DrF F dp wl cl cells) {G H : Hp} {σ : L2.St} {env : Env} {s s' : DrS} {a : Addr} {o o' : HO} (st : StG F G σ H env s) (ha : F.reg a) (e : H a = some o') (h : RepDr dp wl cl cells s' (upd H a o)) (nf : ¬ Fixd o' := by exact fun h => h) :
    Ext F.reg G H G (upd H a o) ∧ StG F G σ (upd H a o) env s' := by
  have ga := st.gd.gr a ha
  have ex : Ext F.reg G H G (upd H a o) := ⟨Same.refl _, fun b u q n _ => by rw [upd_ne (fun z : b = a => n (z ▸ ha))]; exact q, fun _ _ q => .inl q, fun b q => by
    by_cases hb : b = a
    · subst hb; rw [upd_same] at q; cases q
    · rw [upd_ne hb] at q; exact q⟩
  refine ⟨ex, st.ext' ex ⟨fun b u q => ?_, R.put _ _ _ _ _ _ st.gd.w ha e nf h, st.gd.gr, st.gd.nt⟩⟩
  rw [upd_ne (ne_of_none q ga)]
  exact st.gd.gh _ _ q
/-- draw["x"] -/
def drwGet (f : DrS → D) (τ : Env → M DrS D) : Env → M DrS D := fun env => do
  match ← τ env with
  | .hnd 0 => fun s => .ok (f s) s
  | _ => stk
def drwSet (f : Int → DrS → DrS) (τ υ : Env → M DrS D) : Env → M DrS Flw := fun env => do
  onInt (fun i => do
    match ← υ env with
    | .hnd 0 => fun s => .ok (.nx env) (f i s)
    | _ => stk) (← τ env)
theorem hnd0 {α : Type} {G H : Hp} {s : DrS} {d : D} {m : M DrS α} {P : α → DrS → Prop} (p : Post F G H ((match d with
    | .hnd 0 => m
    | _ => stk : M DrS α) s) P) : d = .hnd 0 ∧ Post F G H (m s) P := by
  cases d with
  | hnd n =>
    cases n with
    | zero => exact ⟨rfl, p⟩
    | succ n => exact p.elim
  | _ => exact p.elim
variable {o : Expr} {j : Nat} {pos p2 pos' : Pos} {τ υ : Env → M DrS D}
theorem valV_of {a : Str} {H : Hp} {s : DrS} (R : RepDr dp wl cl cells s H) {v : V} (h : valV [(.inr "wide", V.ref wl), (.inr "left", .int s.left), (.inr "cells", .ref cl), (.inr "turn", .int s.turn)] (Sum.inr a : Key) = some v) : DGet H dp (.str a) (some v) := by
  rw [← h]
  exact DGet.k (k := Sum.inr a) R.d
theorem de_drwGet {a : Str} {f : DrS → D} (R : DrF F dp wl cl cells) (hu : X.A.units + 1 < cLine) (hv : ∀ (s : DrS) (G : Hp), ∃ v, valV [(.inr "wide", V.ref wl), (.inr "left", .int s.left), (.inr "cells", .ref cl), (.inr "turn", .int s.turn)] (Sum.inr a : Key) = some v ∧ Rep F.toCc G (f s) v) (ho : PE X o (tE F τ)) :
    PE X (.Subscript o (.Constant (.str a) j p2) pos) (tE F (drwGet f τ)) := pe_mono (pe_dget hu ho pe_str (fun _ _ => rfl)) fun σ H Q ⟨G, env, s, st, p⟩ => by
  refine seqE st p fun d s1 v G1 H1 e1 st1 r1 p1 => ?_
  obtain ⟨rfl, p2⟩ := hnd0 p1
  obtain ⟨w, hw, rw_⟩ := hv s1 G1
  have r1 : v = F.hnd 0 := r1
  rw [R.h0] at r1
  subst r1
  exact ⟨dp, w, rfl, valV_of (R.rep _ _ st1.gd.w) hw, p2 _ G1 H1 e1 st1 rw_⟩
theorem ds_drwSet {a : Str} {f : Int → DrS → DrS} {value : Expr} (R : DrF F dp wl cl cells) (hu : X.A.units + 1 < cLine)
    (hput : ∀ (s : DrS) (i : Int), putK [(.inr "wide", V.ref wl), (.inr "left", .int s.left), (.inr "cells", .ref cl), (.inr "turn", .int s.turn)] (Sum.inr a : Key) (.int i) = [(.inr "wide", .ref wl), (.inr "left", .int (f i s).left), (.inr "cells", .ref cl), (.inr "turn", .int (f i s).turn)] ∧ (f i s).wide = s.wide)
    (ho : PE X o (tE F υ)) (hv : PE X value (tE F τ)) (hs : swapsWith value (some (.Subscript o (.Constant (.str a) j p2) pos')) pos.line X.env = pure false := by rfl) : PS X (.Assign [.Subscript o (.Constant (.str a) j p2) pos'] value pos) (tS F (drwSet f τ υ)) := ps_mono (ps_dput hu ho pe_str hv hs) fun D σ H ⟨G, env, s, st, p⟩ => by
  refine seqE st p fun d s1 v G1 H1 e1 st1 r1 p1 => ?_
  obtain ⟨i, rfl, p2⟩ := Post.onInt p1
  cases r1
  refine seqE st1 p2 fun d s2 v G2 H2 e2 st2 r2 p3 => ?_
  obtain ⟨rfl, p4⟩ := hnd0 p3
  have r2 : v = F.hnd 0 := r2
  rw [R.h0] at r2
  subst r2
  have W := R.rep _ _ st2.gd.w
  obtain ⟨e5, e6⟩ := hput s2 i
  have W' : RepDr dp wl cl cells (f i s2) (upd H2 dp (.dK (putK [(.inr "wide", V.ref wl), (.inr "left", .int s2.left), (.inr "cells", .ref cl), (.inr "turn", .int s2.turn)] (Sum.inr a : Key) (.int i)))) :=
    ⟨by rw [upd_same, e5], by rw [upd_ne R.dw.symm, e6]; exact W.w, by rw [upd_ne R.dc.symm]; exact W.c⟩
  obtain ⟨e7, st7⟩ := R.write st2 ((R.reg dp).mpr (.inl rfl)) W.d W'
  exact ⟨dp, _, rfl, DPut.k (k := Sum.inr a) W.d (by show 4 < sizeLine; decide), p4 σ G2 _ (e1.trans e2).g st7⟩
theorem drw_left : ∀ (s : DrS) (G : Hp), ∃ v, valV [(.inr "wide", V.ref wl), (.inr "left", .int s.left), (.inr "cells", .ref cl), (.inr "turn", .int s.turn)] (Sum.inr "left" : Key) = some v ∧ Rep F.toCc G (.int s.left) v := fun s G => ⟨.int s.left, by rfl, rfl⟩
theorem drw_turn : ∀ (s : DrS) (G : Hp), ∃ v, valV [(.inr "wide", V.ref wl), (.inr "left", .int s.left), (.inr "cells", .ref cl), (.inr "turn", .int s.turn)] (Sum.inr "turn" : Key) = some v ∧ Rep F.toCc G (.int s.turn) v := fun s G => ⟨.int s.turn, by rfl, rfl⟩
theorem drw_wide (R : DrF F dp wl cl cells) : ∀ (s : DrS) (G : Hp), ∃ v, valV [(.inr "wide", V.ref wl), (.inr "left", .int s.left), (.inr "cells", .ref cl), (.inr "turn", .int s.turn)] (Sum.inr "wide" : Key) = some v ∧ Rep F.toCc G (.hnd 1) v := fun s G => ⟨.ref wl, by rfl, R.h1.symm⟩
theorem drw_cells (R : DrF F dp wl cl cells) : ∀ (s : DrS) (G : Hp), ∃ v, valV [(.inr "wide", V.ref wl), (.inr "left", .int s.left), (.inr "cells", .ref cl), (.inr "turn", .int s.turn)] (Sum.inr "cells" : Key) = some v ∧ Rep F.toCc G (.hnd 2) v := fun s G => ⟨.ref cl, by rfl, R.h2.symm⟩
theorem put_left : ∀ (s : DrS) (i : Int), putK [(.inr "wide", V.ref wl), (.inr "left", .int s.left), (.inr "cells", .ref cl), (.inr "turn", .int s.turn)] (Sum.inr "left" : Key) (.int i) = [(.inr "wide", .ref wl), (.inr "left", .int ({ s with left := i } : DrS).left), (.inr "cells", .ref cl), (.inr "turn", .int ({ s with left := i } : DrS).turn)] ∧ ({ s with left := i } : DrS).wide = s.wide := fun s i => ⟨by rfl, rfl⟩
theorem put_turn : ∀ (s : DrS) (i : Int), putK [(.inr "wide", V.ref wl), (.inr "left", .int s.left), (.inr "cells", .ref cl), (.inr "turn", .int s.turn)] (Sum.inr "turn" : Key) (.int i) = [(.inr "wide", .ref wl), (.inr "left", .int ({ s with turn := i } : DrS).left), (.inr "cells", .ref cl), (.inr "turn", .int ({ s with turn := i } : DrS).turn)] ∧ ({ s with turn := i } : DrS).wide = s.wide := fun s i => ⟨by rfl, rfl⟩
end
end DL
set_option Elab.async false
set_option linter.all false
set_option maxRecDepth 100000
set_option maxHeartbeats 4000000
set_option autoImplicit false
namespace DL
open PySem PySem.Spec PyProof.Rows L2
section
variable {X : Cx} {F : Fx DrS} {dp wl cl : Addr} {cells : List Int} {o e : Expr} {pos apos cpos : Pos} {τ υ : Env → M DrS D}
theorem hndk {α : Type} {k : Nat} {G H : Hp} {s : DrS} {d : D} {m : M DrS α} {P : α → DrS → Prop} (p : Post F G H ((match d with
    | .hnd n => if n = k then m else stk
    | _ => stk : M DrS α) s) P) : d = .hnd k ∧ Post F G H (m s) P := by
  cases d with
  | hnd n =>
    by_cases h : n = k
    · subst h
      have p : Post F G H ((if n = n then m else stk : M DrS α) s) P := p
      rw [if_pos rfl] at p
      exact ⟨rfl, p⟩
    · have p : Post F G H ((if n = k then m else stk : M DrS α) s) P := p
      rw [if_neg h] at p
      exact p.elim
  | _ => exact p.elim
/-- draw["wide"].pop(0) -/
def popW (τ : Env → M DrS D) : Env → M DrS D := fun env => do
  match ← τ env with
  | .hnd n => if n = 1 then fun s => (match s.wide with
    | [] => .stk
    | w :: ws => .ok (.int w) { s with wide := ws }) else stk
  | _ => stk
theorem de_popW {j : Nat} {p2 : Pos} (R : DrF F dp wl cl cells) (ho : PE X o (tE F τ)) (hbase : attributeBase o "pop" X.env (eval o X.env) = eval o X.env := by rfl)
    (hfew : ((backTo cpos (starEach [.Constant (.int 0) j p2] X.env)).all (fun x => !x.1) && (backToKw cpos (keywordEach [] X.env)).all (fun x => x.1.isSome)
      && decide (([.Constant (.int 0) j p2] : List Expr).length + ([] : List Keyword).length + (if ([] : List Keyword).isEmpty then 0 else 1) < 30)) = true := by rfl)
    (hline : (apos.endLine == cpos.line) = true := by rfl) : PE X (.Call (.Attribute o "pop" apos) [.Constant (.int 0) j p2] [] cpos) (tE F (popW τ)) :=
  pe_mono (pe_bm PySem.F.plainAttrs_list PySem.F.slot_list_pop PySem.F.type_list_pop mt_popAt ho (pa_cons pe_int pa_nil) hbase hfew hline rfl rfl) fun σ H Q ⟨G, env, s, st, p⟩ => by
    refine seqE st p fun d s1 v G1 H1 e1 st1 r1 p1 => ?_
    obtain ⟨rfl, p2⟩ := hndk p1
    have r1 : v = F.hnd 1 := r1
    rw [R.h1] at r1
    subst r1
    have W := R.rep _ _ st1.gd.w
    cases hw : s1.wide with
    | nil => simp only [hw] at p2; exact p2.elim
    | cons w ws =>
      simp only [hw] at p2
      have ew : H1 wl = some (.lst (V.int w :: ws.map V.int)) := by rw [W.w, hw]; rfl
      refine ⟨.inl ⟨rfl, _, .inl (.inl ew)⟩, wl, _, 0, 0, .int w, rfl, rfl, ew, by decide, by decide, by simp [seqIndex?], rfl, ?_⟩
      have W' : RepDr dp wl cl cells { s1 with wide := ws } (upd H1 wl (.lst ((V.int w :: ws.map V.int).eraseIdx 0))) := ⟨by rw [upd_ne R.dw]; exact W.d, by rw [upd_same]; rfl, by rw [upd_ne R.wc.symm]; exact W.c⟩
      obtain ⟨e7, st7⟩ := R.write st1 ((R.reg wl).mpr (.inr (.inl rfl))) W.w W'
      exact p2 _ G1 _ (e1.trans e7) st7 rfl
/-- draw["wide"] != [] -/
def neW (τ : Env → M DrS D) : Env → M DrS Bool := fun env => do
  match ← τ env with
  | .hnd n => if n = 1 then fun s => .ok (!s.wide.isEmpty) s else stk
  | _ => stk
theorem depth_ints (ns : List Int) : PyData.depthAll (ns.map PyData.int) = 0 := by
  induction ns with
  | nil => rfl
  | cons n ns ih => simp [PyData.depthAll, PyData.depth, ih]
theorem lay_ints (ns : List Int) : PyData.canLayAll0 (ns.map PyData.int) = true := by
  induction ns with
  | nil => rfl
  | cons n ns ih => simp [PyData.canLayAll0, PyData.canLay0, ih]
theorem shaped_ints (ns : List Int) : SeqAt.shaped (.list (ns.map PyData.int)) = true := by
  simp [SeqAt.shaped, PyData.canLay0, PyData.depth, depth_ints, lay_ints]
theorem dpAll_ints {K : PySem.W.Frag} {H : Hp} : ∀ ns : List Int, DpAll K H (ns.map V.int) (ns.map PyData.int)
  | [] => .nil
  | n :: ns => .cons (.int n) (dpAll_ints ns)
theorem dt_neW {p2 : Pos} (R : DrF F dp wl cl cells) (hu : X.A.units + 64 < cLine) (ho : PE X o (tE F τ)) : PT X (.Compare o [.NotEq] [.List [] p2] pos) (tT F (neW τ)) :=
  pt_mono (pt_cmpR (op_neD hu) ho (pe_lst pa_nil) (nomark _)) fun σ H Q ⟨G, env, s, st, p⟩ => by
    refine seqE st p fun d s1 v G1 H1 e1 st1 r1 p1 => ?_
    obtain ⟨rfl, p2⟩ := hndk p1
    have r1 : v = F.hnd 1 := r1
    rw [R.h1] at r1
    subst r1
    refine ⟨Nat.zero_le _, fun q nq => ?_⟩
    obtain ⟨g2, e2⟩ := st1.gd.open_ nq (.lst [])
    have st2 := st1.ext' e2 g2
    have W := R.rep _ _ st2.gd.w
    refine ⟨.list (s1.wide.map PyData.int), .list [], .lst (.inl (.inl W.w)) (dpAll_ints _), .lst (.inl (.inl upd_same)) .nil, shaped_ints _, by decide, _, rfl, ?_⟩
    have e : (!PyData.eqv (.list (s1.wide.map PyData.int)) (.list [])) = !s1.wide.isEmpty := by cases s1.wide <;> rfl
    rw [e]
    exact p2 G1 _ (e1.trans e2) st2
/-- .. in draw["cells"] -/
def iCl (cells : List Int) (τ : Env → M DrS D) : Env → M DrS (List D) := fun env => do
  match ← τ env with
  | .hnd n => if n = 2 then pure (cells.map .int) else stk
  | _ => stk
theorem di_cells {tg : Expr} (R : DrF F dp wl cl cells) (ho : PE X o (tE F τ)) : PI X tg o (tI F (iCl cells τ)) := pi_mono (pi_list ho) fun σ H Q ⟨G, env, s, st, p⟩ => by
  refine seqE st p fun d s1 v G1 H1 e1 st1 r1 p1 => ?_
  obtain ⟨rfl, p2⟩ := hndk p1
  have r1 : v = F.hnd 2 := r1
  rw [R.h2] at r1
  subst r1
  have W := R.rep _ _ st1.gd.w
  refine ⟨cl, rfl, ⟨_, .inl (.inl W.c)⟩, p2 _ G1 H1 e1 st1 fun G' H' s' e g => ?_⟩
  have W' := R.rep _ _ g.w
  have q' : SqL X.K H' cl (cells.map V.int) := .inl (.inl W'.c)
  refine ⟨fun i d hd => ?_, fun i hi => ⟨_, q', by rw [List.length_map] at hi ⊢; exact hi⟩⟩
  rw [List.getElem?_map] at hd
  obtain ⟨n, hn, rfl⟩ := Option.map_eq_some_iff.mp hd
  have hv : (cells.map V.int)[i]? = some (.int n) := by rw [List.getElem?_map, hn]; rfl
  refine ⟨⟨_, _, q', hv⟩, fun x H2 y => ?_⟩
  obtain ⟨rfl, y⟩ := y
  have z := y _ q'
  rw [hv] at z
  cases z
  exact ⟨G', Ext.refl _ _ _, g, rfl⟩
end
/-! ### dict displays -/
section
variable {S : Type} {X : Cx} {F : Fx S}
def prsL : List ((Env → M S D) × (Env → M S D)) → Env → M S (List (D × D))
  | [], _ => pure []
  | (k, v) :: r, env => do
    let x ← k env
    let y ← v env
    let ps ← prsL r env
    pure ((x, y) :: ps)
def keyD : D → Option Key
  | .int i => some (.inl i)
  | .str x => some (.inr x)
  | _ => none
def keysD : List (D × D) → Option (List (Key × D))
  | [] => some []
  | (k, v) :: r => match keyD k, keysD r with
    | some a, some b => some ((a, v) :: b)
    | _, _ => none
def putKD (kvs : List (Key × D)) (k : Key) (v : D) : List (Key × D) :=
  if (kvs.any fun kv => decide (kv.1 = k)) = true then kvs.map (fun kv => if kv.1 = k then (kv.1, v) else kv) else kvs ++ [(k, v)]
def mergeD (kvs more : List (Key × D)) : List (Key × D) := more.foldl (fun acc kv => putKD acc kv.1 kv.2) kvs
def dctD (prs : List ((Env → M S D) × (Env → M S D))) : Env → M S D := fun env => do
  match keysD (← prsL prs env) with
  | some kvs => grd (kvs.length ≤ 15) (pure (.dct (mergeD [] kvs)))
  | none => stk
def RepP (C : Cc S) (G : Hp) : List (D × D) → List (V × V) → Prop
  | [], vs => vs = []
  | (a, b) :: ds, vs => ∃ v w r, vs = (v, w) :: r ∧ Rep C G a v ∧ Rep C G b w ∧ RepP C G ds r
theorem RepP.mono {C : Cc S} {G G' : Hp} (h : Same G G') : ∀ {ds : List (D × D)} {vs : List (V × V)}, RepP C G ds vs → RepP C G' ds vs
  | [], _, r => r
  | (_, _) :: _, _, ⟨v, w, r, e, a, b, c⟩ => ⟨v, w, r, e, a.mono h, b.mono h, c.mono h⟩
theorem prsL_of : ∀ (prs : List ((Env → M S D) × (Env → M S D))) {G H : Hp} {σ : L2.St} {env : Env} {s : S} {α : Type} {k : List (D × D) → S → Res S α} {P : α → S → Prop} {Q : List (V × V) → Hp → Prop}, StG F G σ H env s → Post F G H ((prsL prs env s).bind k) P →
    (∀ ds s1 vs G1 H1, Ext F.reg G H G1 H1 → StG F G1 σ H1 env s1 → RepP F.toCc G1 ds vs → Post F G1 H1 (k ds s1) P → Q vs H1) → tPairs (prs.map fun q => (tE F q.1, tE F q.2)) σ H Q
  | [], G, H, σ, env, s, α, k, P, Q, st, p, h => h [] s [] G H (Ext.refl _ _ _) st rfl p
  | (a, b) :: r, G, H, σ, env, s, α, k, P, Q, st, p, h => by
    have p : Post F G H (((a env s).bind fun x s1 => (b env s1).bind fun y s2 => (prsL r env s2).bind fun ps s3 => k ((x, y) :: ps) s3)) P := by
      have e : (prsL ((a, b) :: r) env s).bind k = ((a env s).bind fun x s1 => (b env s1).bind fun y s2 => (prsL r env s2).bind fun ps s3 => k ((x, y) :: ps) s3) := by
        show (((a env s).bind fun x s1 => (b env s1).bind fun y s2 => (prsL r env s2).bind fun ps s3 => Res.ok ((x, y) :: ps) s3)).bind k = _
        cases a env s with
        | ok x s1 =>
          show (((b env s1).bind fun y s2 => (prsL r env s2).bind fun ps s3 => Res.ok ((x, y) :: ps) s3)).bind k = ((b env s1).bind _)
          cases b env s1 with
          | ok y s2 =>
            show ((prsL r env s2).bind fun ps s3 => Res.ok ((x, y) :: ps) s3).bind k = ((prsL r env s2).bind _)
            cases prsL r env s2 <;> rfl
          | err _ _ => rfl
          | stk => rfl
        | err _ _ => rfl
        | stk => rfl
      rw [← e]; exact p
    show tPairs ((tE F a, tE F b) :: r.map fun q => (tE F q.1, tE F q.2)) σ H Q
    refine seqE st p fun d s1 v G1 H1 e1 st1 r1 p1 => ?_
    refine seqE st1 p1 fun d2 s2 v2 G2 H2 e2 st2 r2 p2 => ?_
    refine prsL_of r st2 p2 fun ds s3 vs G3 H3 e3 st3 r3 p3 => ?_
    exact h ((d, d2) :: ds) s3 ((v, v2) :: vs) G3 H3 ((e1.trans e2).trans e3) st3 ⟨v, v2, vs, rfl, r1.mono (e2.trans e3).g, r2.mono e3.g, r3⟩ p3
theorem keysD_rep {C : Cc S} {G : Hp} : ∀ {ds : List (D × D)} {vs : List (V × V)} {kvs : List (Key × D)}, RepP C G ds vs → keysD ds = some kvs → ∃ us : List (Key × V), vs = us.map (fun kv => (kV kv.1, kv.2)) ∧ RepK C G kvs us ∧ us.length = kvs.length
  | [], _, _, r, e => by
    cases e
    have e1 : _ = [] := r
    subst e1
    exact ⟨[], rfl, rfl, rfl⟩
  | (a, b) :: ds, _, kvs, ⟨v, w, r, ev, ra, rb, rc⟩, e => by
    subst ev
    unfold keysD at e
    cases ha : keyD a with
    | none => simp only [ha] at e; cases e
    | some k =>
      cases hr : keysD ds with
      | none => simp only [ha, hr] at e; cases e
      | some m =>
        simp only [ha, hr] at e
        cases e
        obtain ⟨us, e1, e2, e3⟩ := keysD_rep rc hr
        refine ⟨(k, w) :: us, ?_, ⟨w, us, rfl, rb, e2⟩, by simp [e3]⟩
        have hk : v = kV k := by
          cases a with
          | int i => cases ha; exact ra
          | str x => cases ha; exact ra
          | _ => cases ha
        rw [e1, hk]; rfl
theorem RepK.any {C : Cc S} {G : Hp} (k : Key) : ∀ {ds : List (Key × D)} {vs : List (Key × V)}, RepK C G ds vs → (vs.any fun kv => decide (kv.1 = k)) = ds.any fun kv => decide (kv.1 = k)
  | [], _, r => by
    have e1 : _ = [] := r
    subst e1; rfl
  | (_, _) :: _, _, ⟨v, r, e, _, b⟩ => by subst e; rw [List.any_cons, List.any_cons, b.any k]
theorem RepK.app {C : Cc S} {G : Hp} : ∀ {ds es : List (Key × D)} {vs us : List (Key × V)}, RepK C G ds vs → RepK C G es us → RepK C G (ds ++ es) (vs ++ us)
  | [], _, _, _, r, q => by
    have e1 : _ = [] := r
    subst e1; exact q
  | (_, _) :: _, _, _, _, ⟨v, r, e, a, b⟩, q => by subst e; exact ⟨v, _, rfl, a, b.app q⟩
theorem RepK.mapSet {C : Cc S} {G : Hp} {k : Key} {d : D} {w : V} (rd : Rep C G d w) : ∀ {ds : List (Key × D)} {vs : List (Key × V)}, RepK C G ds vs → RepK C G (ds.map fun kv => if kv.1 = k then (kv.1, d) else kv) (vs.map fun kv => if kv.1 = k then (kv.1, w) else kv)
  | [], _, r => by
    have e1 : _ = [] := r
    subst e1; rfl
  | (k', d') :: _, _, ⟨v, r, e, a, b⟩ => by
    subst e
    rw [List.map_cons, List.map_cons]
    by_cases h : k' = k
    · rw [if_pos h, if_pos h]; exact ⟨w, _, rfl, rd, b.mapSet rd⟩
    · rw [if_neg h, if_neg h]; exact ⟨v, _, rfl, a, b.mapSet rd⟩
theorem RepK.put {C : Cc S} {G : Hp} {k : Key} {d : D} {w : V} (rd : Rep C G d w) {ds : List (Key × D)} {vs : List (Key × V)} (r : RepK C G ds vs) : RepK C G (putKD ds k d) (putK vs k w) := by
  unfold putKD putK
  rw [r.any k]
  split
  · exact r.mapSet rd
  · exact r.app ⟨w, [], rfl, rd, rfl⟩
theorem RepK.merge {C : Cc S} {G : Hp} : ∀ {more : List (Key × D)} {mv : List (Key × V)} {ds : List (Key × D)} {vs : List (Key × V)}, RepK C G more mv → RepK C G ds vs → RepK C G (mergeD ds more) (mergeK vs mv)
  | [], _, _, _, r, q => by
    have e1 : _ = [] := r
    subst e1; exact q
  | (k, d) :: more, _, ds, vs, ⟨v, r, e, a, b⟩, q => by
    subst e
    have := RepK.merge (more := more) (mv := r) (ds := putKD ds k d) (vs := putK vs k v) b (q.put a)
    exact this
theorem de_dict {pos : Pos} {keys : List (Option Expr)} {values : List Expr} {prs : List ((Env → M S D) × (Env → M S D))} (h : PPs X pos keys values (prs.map fun q => (tE F q.1, tE F q.2))) (hall : keys.all (·.isSome) = true := by rfl) (hl : keys.length = values.length := by rfl) (h0 : keys ≠ [] := by intro z; cases z)
    (h15 : keys.length ≤ 15 := by decide) : PE X (.Dict keys values pos) (tE F (dctD prs)) := pe_mono (pe_disp h hall hl h0 h15) fun σ H Q ⟨G, env, s, st, p⟩ => by
  intro q nq
  obtain ⟨g2, e2⟩ := st.gd.open_ nq (.dK [])
  have st2 := st.ext' e2 g2
  have nr : ¬ F.reg q := fun z => by
    obtain ⟨u, e⟩ := F.there s H q st.gd.w z
    rw [nq] at e; cases e
  have gq : G q = none := st.gd.gh.free nq
  have p' : Post F G (upd H q (.dK [])) ((prsL prs env s).bind fun ps s' => (match keysD ps with
    | some kvs => grd (kvs.length ≤ 15) (pure (.dct (mergeD [] kvs)))
    | none => stk : M S D) s') (K1 F G H σ env Q) := Post.later p (Same.refl _)
  refine prsL_of prs st2 p' fun ds s3 vs G3 H3 e3 st3 r3 p3 => ?_
  have hq3 := e3.fr q _ upd_same nr (by intro _ h; cases h)
  have gq3 := e3.un upd_same gq nr
  refine ⟨hq3, ?_⟩
  cases hk : keysD ds with
  | none => rw [hk] at p3; exact p3.elim
  | some kvs =>
    rw [hk] at p3
    obtain ⟨h15, p4⟩ := Post.grd p3
    obtain ⟨us, e4, rk, e5⟩ := keysD_rep r3 hk
    refine ⟨us, e4, by rw [e5]; exact h15, ?_⟩
    have g6 := (st3.gd.write hq3 gq3 nr (.dK (mergeK [] us))).freeze upd_same nr
    have ss : Same G3 (upd G3 q (.dK (mergeK [] us))) := fun b o hb => by rw [upd_ne (ne_of_none hb gq3)]; exact hb
    have e23 := e2.trans e3
    have eX : Ext F.reg G H (upd G3 q (.dK (mergeK [] us))) (upd H3 q (.dK (mergeK [] us))) := by
      refine ⟨e23.g.trans ss, fun b o hb nb nt => ?_, fun b o hb => ?_, fun b hb => ?_⟩
      · rw [upd_ne (ne_of_none hb nq)]; exact e23.fr b o hb nb nt
      · by_cases h1 : b = q
        · subst h1; exact .inr (.inl nq)
        · rw [upd_ne h1] at hb; exact e23.nw b o hb
      · by_cases h1 : b = q
        · subst h1; exact nq
        · rw [upd_ne h1] at hb; exact e23.tr b hb
    exact p4 _ _ _ eX (st.ext' eX g6) ⟨q, _, rfl, upd_same, RepK.merge (rk.mono ss) rfl⟩
theorem de_dict0 {pos : Pos} : PE X (.Dict [] [] pos) (tE F (rC (.dct []))) := pe_mono pe_dnewK fun σ H Q ⟨G, env, s, st, p⟩ => by
  intro q nq
  obtain ⟨e2, st2⟩ := st.new nq (.dK [])
  exact p _ _ _ e2 st2 ⟨q, [], rfl, upd_same, rfl⟩
end
end DL
set_option Elab.async false
set_option linter.all false
set_option maxRecDepth 100000
set_option maxHeartbeats 4000000
set_option autoImplicit false
/-! enumerate(tuple): turned from the library's enumerate(list) -/
namespace DL
open PySem PySem.Spec PyProof.Rows L2
theorem meets_enum1B {v : Value} {o : Obj} {H : Heap → Prop} (B : PySem.Begins v o H) :
    Meets (Builtin.«enumerate.__new__» ⟨[.type "enumerate", v], []⟩) (fun _ R s => H s.heap ∧
      R (.ok (.ret (.ref (s.heap.push o).objs.size))) { s with heap := (s.heap.push o).push { cls := .type "enumerate", data := .fields #[.none, .bool false, .ref s.heap.objs.size, rawInt 0, .none, .none] } }) :=
  .of_wp fun prog w A R s h => by
    obtain ⟨hp, g, d, tk, os⟩ := s; obtain ⟨h1, h⟩ := h
    have hsub := sub_enumerate
    have q1 : ∀ {A' : Around} {E : Value → Shared → Prop} {Q : Value → Shared → Prop}, Q (.ref hp.objs.size) ⟨hp.push o, g, d, tk, os⟩ → wpAny (model prog w) A' (pyIter v) Q E ⟨hp, g, d, tk, os⟩ :=
      fun q => B.iter prog w _ _ ⟨hp, g, d, tk, os⟩ _ h1 q
    wp_walk using q1
    refine wpAny_stack_any fun st => wpAny_pure ?_
    split
    · rename_i c _ _ _ _ _
      cases (c == Value.type "enumerate")
      · wp_walk using q1
        exact ⟨_, rfl, h⟩
      · wp_walk using q1
        exact ⟨_, rfl, h⟩
    · wp_walk using q1
      exact ⟨_, rfl, h⟩
theorem call_enum1B {prog : Program} {w : World} {A : Around} {E : Value → Shared → Prop} {s : Shared} {v : Value} {o : Obj} {H : Heap → Prop} {Q : Value → Shared → Prop} (B : PySem.Begins v o H) (h1 : H s.heap)
    (h : ∀ h', IsEnum h' (s.heap.objs.size + 1) s.heap.objs.size 0 .none → h'.get? s.heap.objs.size = some o → h'.objs.size = s.heap.objs.size + 2 →
      (∀ b o, s.heap.get? b = some o → h'.get? b = some o) → Q (.ref (s.heap.objs.size + 1)) { s with heap := h' }) :
    wpAny (model prog w) A (call (.type "enumerate") [v]) Q E s := by
  refine callType_new F.called_enumerate (by decide) (F.typeCall_enumerate_1 _) (F.newCall_enumerate_1 _) (fun obj => F.args_object_init_2 obj _) F.entry_enumerate_new (meets_enum1B B) ⟨h1, ?_⟩
  have hz : (s.heap.push o).objs.size = s.heap.objs.size + 1 := Heap.size_push ..
  show _ ∧ _
  rw [hz]
  have he : IsEnum ((s.heap.push o).push { cls := .type "enumerate", data := .fields #[.none, .bool false, .ref s.heap.objs.size, rawInt 0, .none, .none] }) (s.heap.objs.size + 1) s.heap.objs.size 0 .none := by
    have := Heap.get?_push_size (s.heap.push o) (o := { cls := .type "enumerate", data := .fields #[.none, .bool false, .ref s.heap.objs.size, rawInt 0, .none, .none] }) rfl
    rw [hz] at this; exact this
  exact ⟨⟨_, he, rfl⟩, h _ he (Heap.get?_push_of_some _ (Heap.get?_push_size _ B.free)) (by rw [Heap.size_push, hz]) fun b o x => Heap.get?_push_of_some _ (Heap.get?_push_of_some _ x)⟩
/-- the tuple at a, each item in a new pair -/
def IteT (K : PySem.W.Frag) (a : Addr) : It :=
  ⟨fun i H => ∃ (xs : List V) (x : V), SqT K H a xs ∧ xs[i]? = some x, fun i H v H' => ∃ T x, v = .ref T ∧ H T = none ∧ H' = upd H T (.tup [.int (i : Nat), x]) ∧ ∀ xs, SqT K H a xs → xs[i]? = some x, fun i H => ∃ xs : List V, SqT K H a xs ∧ xs.length ≤ i⟩
theorem next_enumT_end {prog : Program} {w : World} {A : Around} {E : Value → Shared → Prop} {s : Shared} {e it a : Addr} {i : Nat} {j : Int} {items : Array Value} {old : Value} {Q : Option Value → Shared → Prop} (hh : A.handled = none)
    (he : IsEnum s.heap e it j old) (hit : s.heap.IsTupleIter it a i) (ht : s.heap.IsTuple a items) (hx : items[i]? = none)
    (hQ : ∀ h', Heap.ExtBut it s.heap h' → Q none { s with heap := h' }) : wpAny (model prog w) A (pyNext (.ref e)) Q E s := by
  have hT : s.TypeIs (.ref e) "enumerate" := ⟨_, he, rfl⟩
  unfold pyNext
  refine wpAny_bind (wpAny_attempt (wpAny_callSpecial?_slot (name := Str.ofString "__next__") hT F.slot_enumerate_next
    (wpAny_call_entry F.slot_enumerate_next hT F.entry_enumerate_next ?_ (F.args_enumerate_next_1 _))))
  show wpAny _ _ (field (.ref e) 2 >>= _) _ _ _
  refine wpAny_bind (wpAny_field he rfl (x := .ref it) rfl ?_)
  refine wpAny_bind (PySem.wpAny_nextOf_tuple_end hh hit ht hx fun h' x he' hx' => ?_)
  obtain ⟨o, ho, hc⟩ := hx'
  refine wpAny_bind (wpAny_isInstance (T := "StopIteration") (b := true) ⟨o, ho, hc⟩ isSubtype_stop ?_)
  exact wpAny_pure (hQ _ he')
theorem turn_enumT {P : Program} {w : World} {K : PySem.W.Frag} {elts : List Expr} {kk : Nat} {tpos : Pos} (a e it : Addr) :
    Turn P w K (.Tuple elts kk tpos) (IteT K a) [e, it] e (fun i h => (∃ old, IsEnum h e it ((i : Nat) : Int) old) ∧ h.IsTupleIter it a i ∧ e ≠ it ∧ a ≠ it ∧ a ≠ e) where
  mem := by simp
  obj := fun i h st b hb => by
    obtain ⟨⟨old, he⟩, ⟨o, ho, hc, hd⟩, _⟩ := st
    have e' : b = e ∨ b = it := by simpa using hb
    rcases e' with z | z
    · rw [z]; exact ⟨_, he, fun v q => nomatch q⟩
    · rw [z]; exact ⟨o, ho, fun v q => by rw [hd] at q; cases q⟩
  keep := fun i h h' st k => let ⟨⟨old, he⟩, hi, hne⟩ := st; ⟨⟨old, k e (by simp) _ he⟩, hi.at fun o q => k it (by simp) o q, hne⟩
  item := by
    intro X hP hw hK hc i pins s σ H E I hf st hg
    subst hP hw hK
    obtain ⟨⟨old, he⟩, hit, hne, hai, hae⟩ := st
    obtain ⟨xs, x, hq, hx⟩ := hg
    obtain ⟨its, rv, p, hz⟩ := I.tuple hq
    obtain ⟨u, hu, ru⟩ := rv.get hx
    have hel : e < s.heap.objs.size := Heap.lt_size he
    have hil : it < s.heap.objs.size := by obtain ⟨_, q, _⟩ := hit; exact Heap.lt_size q
    have hil2 : i < its.toArray.size := by
      have := (List.getElem?_eq_some_iff.mp hu).1
      simpa using this
    have D := PySem.Draws.tuple (prog := X.prog) (w := X.w) (A := X.A.in1) (I.ok.hd hc) it a hai its.toArray
    refine wpAny_pyNext_enum_itemD D he ⟨hit, show s.heap.IsTuple a its.toArray from p⟩ hil2 hne (by simp only [List.mem_cons, List.not_mem_nil, or_false]; exact fun z => z.elim hne (fun y => hae y.symm)) fun y h' tk hP ho hst' hT hsz hk => ?_
    have hy : y = u := by
      have h1 : its.toArray[i]? = some y := hP
      have h2 : its.toArray[i]? = some u := by simpa using hu
      rw [h1] at h2; exact Option.some.inj h2
    subst hy
    refine ⟨_, rfl, wpAny_letOwnedTupleGo_enum (s := { s with heap := h', toks := tk + 1 }) ho fun h'' he' sb => ?_⟩
    have hT2 : h''.get? s.heap.objs.size = some { cls := .type "tuple", data := .seq #[.int i tk, y] } := (sb.2 _ (Nat.ne_of_gt hel)).trans hT
    have new : ObjOk X.prog X.w (upd H s.heap.objs.size (.tup [.int (i : Nat), x])) h'' s.heap.objs.size (.tup [.int (i : Nat), x]) :=
      ⟨by show 2 ≤ sizeLine; decide, [.int i tk, y], .cons ⟨_, rfl⟩ (.cons ru .nil), ⟨_, hT2, rfl, _, rfl⟩⟩
    have I1 : Inv X pins σ (upd H s.heap.objs.size (.tup [.int (i : Nat), x])) { s with heap := h'', toks := tk + 1 } :=
      I.turnedNew (ch := [e, it]) (fun b ob hb q => (sb.2 b (fun z => hb (by simp [z]))).trans (hk b ob (fun z => hb (by simp [z])) (fun z => hb (by simp [z])) q)) hf (Nat.le_refl _) new
    refine ⟨.ref s.heap.objs.size, _, I1, rfl, ⟨_, x, rfl, I.hok.fresh (Nat.le_refl _), rfl, fun ys hy => by rw [I.tuple_inj hy hq]; exact hx⟩, ⟨⟨y, ?_⟩, hst'.1.at fun o q => (sb.2 it (Ne.symm hne)).trans q, hne, hai, hae⟩, fun b hb => ?_⟩
    · have e1 : ((i + 1 : Nat) : Int) = (i : Int) + 1 := by omega
      rw [e1]; exact he'
    · have hb' : b < s.heap.objs.size := by
        have e' : b = e ∨ b = it := by simpa using hb
        rcases e' with z | z
        · rw [z]; exact hel
        · rw [z]; exact hil
      rw [upd_ne (Nat.ne_of_lt hb')]
      exact (hf b hb).1
  done := by
    intro X hP hw hK hc i pins s σ H E I hf st hg
    subst hP hw hK
    obtain ⟨⟨old, he⟩, hit, hne, hai, hae⟩ := st
    obtain ⟨xs, hq, hx⟩ := hg
    obtain ⟨its, rv, p, hz⟩ := I.tuple hq
    obtain ⟨f0, f1, f2, f3, f4, f5⟩ := hf it (by simp)
    have hl := rv.length
    exact next_enumT_end (I.ok.hd hc) he hit (show s.heap.IsTuple a its.toArray from p) (by simp; omega) fun h' eb => ⟨rfl, I.turned (t' := s.toks) (fun b o hb q => eb b o hb q) f0 f1 f3 f4 f5⟩
  self := fun A i s Q E st h => let ⟨⟨_, he⟩, _⟩ := st; wpAny_pyIter_enum he h
/-- enumerate(e), e a list or a tuple -/
def iEnumS (K : PySem.W.Frag) (ta : TA) : TI := fun σ H R => ta σ H fun vs H1 => ∃ a xs, vs = [.ref a] ∧ ((SqL K H1 a xs ∧ R (Ite K a) H1) ∨ (SqT K H1 a xs ∧ R (IteT K a) H1))
theorem pi_enumS {X : Cx} {e : Expr} {ta : TA} {p pos tpos : Pos} {elts : List Expr} {kk : Nat} (hg : Gl X "enumerate") (hm : X.mg "enumerate" = none) (ha : PA X [e] ta) (hs : starEach [e] X.env = [(false, eval e X.env)] := by rfl) :
    PI X (.Tuple elts kk tpos) (.Call (.Name "enumerate" p) [e] [] pos) (iEnumS X.K ta) := by
  refine ⟨fun pins s σ H R I h => ?_⟩
  refine Call_ (ld_blt I hg hm boot_enumerate (PyProof.Rows.callWith_type1 (thn (ha.run pos pins s σ H _ I h) fun us s1 ⟨vs, H1, I1, r1, q1⟩ => ?_) hs rfl))
  obtain ⟨a, xs, ex, q1⟩ := q1
  subst ex
  cases r1 with
  | cons r rr =>
    cases rr
    cases r
    have fin : ∀ b, b ∈ [s1.heap.objs.size + 1, s1.heap.objs.size] → s1.heap.objs.size ≤ b := fun b hb => by
      have e' : b = s1.heap.objs.size + 1 ∨ b = s1.heap.objs.size := by simpa using hb
      rcases e' with z | z
      · rw [z]; exact Nat.le_add_right _ _
      · rw [z]; exact Nat.le_refl _
    rcases q1 with ⟨hq, q⟩ | ⟨hq, q⟩
    · obtain ⟨its, rv, p', hz⟩ := I1.list hq
      refine call_enumerate_list p'.isList fun h' he hit hsz hk => wpAny_pyIter_enum he ?_
      have I2 : Inv X pins σ H1 { s1 with heap := h' } := I1.kept (t' := s1.toks) hk
      exact ⟨s1.heap.objs.size + 1, [s1.heap.objs.size + 1, s1.heap.objs.size], _, _, H1, rfl, I2, turn_enum a (s1.heap.objs.size + 1) s1.heap.objs.size, ⟨⟨.none, he⟩, hit, Nat.succ_ne_self _⟩, fun b hb => I1.fpOk (fin b hb) (I1.hok.fresh (fin b hb)), q⟩
    · obtain ⟨its, rv, p', hz⟩ := I1.tuple hq
      have p2 : s1.heap.IsTuple a its.toArray := p'
      have hal : a < s1.heap.objs.size := by obtain ⟨_, q, _⟩ := p2; exact Heap.lt_size q
      refine call_enum1B (PySem.begins_tuple a its.toArray) p2 fun h' he ho hsz hk => wpAny_pyIter_enum he ?_
      have I2 : Inv X pins σ H1 { s1 with heap := h' } := I1.kept (t' := s1.toks) hk
      exact ⟨s1.heap.objs.size + 1, [s1.heap.objs.size + 1, s1.heap.objs.size], _, _, H1, rfl, I2, turn_enumT a (s1.heap.objs.size + 1) s1.heap.objs.size, ⟨⟨.none, he⟩, ⟨_, ho, rfl, rfl⟩, Nat.succ_ne_self _, Nat.ne_of_lt hal, Nat.ne_of_lt (Nat.lt_succ_of_lt hal)⟩, fun b hb => I1.fpOk (fin b hb) (I1.hok.fresh (fin b hb)), q⟩
end DL
set_option Elab.async false
set_option linter.all false
set_option maxRecDepth 100000
set_option maxHeartbeats 4000000
set_option autoImplicit false
/-! DL: is None, lists of one's own (append, extend, returned), enumerate, list(range), calls of instances, defaults, bottom -/
namespace DL
open PySem PySem.Spec PyProof.Rows L2
variable {S : Type} {X : Cx} {F : Fx S}
/-! ### is None -/
def isND (neg : Bool) : D → D → M S D := fun d e => match e with
  | .non => (match d with
    | .non => pure (.bl (!neg))
    | .hnd _ => stk
    | .dks _ => stk
    | .exc _ _ => stk
    | _ => pure (.bl neg))
  | _ => stk
theorem isND_of {neg : Bool} {G σ H env s d e x y} {Q : VK} (st : StG F G σ H env s) (rx : Rep F.toCc G d x) (ry : Rep F.toCc G e y) (p : Post F G H (isND neg d e s) (K1 F G H σ env Q)) : y = .non ∧ Q (.bl (if neg then !decide (x = .non) else decide (x = .non))) H := by
  have no : ∀ z : V, z ≠ .non → decide (z = V.non) = false := fun z h => decide_eq_false h
  have fin : ∀ b : Bool, (K1 F G H σ env Q) (.bl b) s → Q (.bl b) H := fun b k => k (.bl b) G H (Ext.refl _ _ _) st rfl
  cases e with
  | non =>
    refine ⟨ry, ?_⟩
    cases d with
    | non => cases rx; cases neg <;> exact fin _ p
    | hnd _ => exact p.elim
    | dks _ => exact p.elim
    | exc _ _ => exact p.elim
    | bl b => cases rx; cases neg <;> exact fin _ p
    | int b => cases rx; cases neg <;> exact fin _ p
    | str b => cases rx; cases neg <;> exact fin _ p
    | lst ds => obtain ⟨a, vs, rfl, _⟩ := rx; cases neg <;> exact fin _ p
    | tup ds => obtain ⟨a, vs, rfl, _⟩ := rx; cases neg <;> exact fin _ p
    | dct ds => obtain ⟨a, vs, rfl, _⟩ := rx; cases neg <;> exact fin _ p
    | ins c fs => obtain ⟨a, dx, vs, rfl, _⟩ := rx; cases neg <;> exact fin _ p
    | scr ns => obtain ⟨a, rfl, _⟩ := rx; cases neg <;> exact fin _ p
    | fn i => obtain ⟨a, c, rfl, _⟩ := rx; cases neg <;> exact fin _ p
    | adr a d => obtain ⟨rfl, _⟩ := rx; cases neg <;> exact fin _ p
    | rps d => obtain ⟨x, rfl, _⟩ := rx; cases neg <;> exact fin _ p
  | _ => exact p.elim
/-! ### lists of one's own -/
theorem StG.nreg {G H : Hp} {σ : L2.St} {env : Env} {s : S} (st : StG F G σ H env s) {p : Addr} (n : H p = none) : ¬ F.reg p := fun z => by
  obtain ⟨u, e⟩ := F.there s H p st.gd.w z
  rw [n] at e; cases e
/-- a new list, in a slot of its own -/
theorem StG.own {G H : Hp} {σ : L2.St} {env : Env} {s : S} {ds : List D} {vs : List V} (i : Nat) (st : StG F G σ H env s) {p : Addr} (n : H p = none) (r : RepL F.toCc G ds vs) (hz : vs.length ≤ sizeLine) :
    StG F G (σ.set i (some (.ref p))) (upd H p (.lst vs)) (env.set i (some (.own ds))) s := by
  obtain ⟨g1, e1⟩ := st.gd.open_ n (.lst vs)
  have st1 := st.ext' e1 g1
  have gp : G p = none := st.gd.gh.free n
  refine ⟨st1.ext, g1, by rw [List.length_set, List.length_set]; exact st1.env_.len, fun j sl e => ?_, fun a b ne ha hb => ?_⟩
  · by_cases q : i = j
    · subst q
      have hl : i < env.length := by
        by_cases hl : i < env.length
        · exact hl
        · rw [List.set_eq_of_length_le (by omega), List.getElem?_eq_none (by omega)] at e; cases e
      rw [List.getElem?_set_self hl] at e
      cases e
      exact ⟨_, List.getElem?_set_self (by rw [st.env_.len]; exact hl), p, vs, rfl, upd_same, gp, st.nreg n, st.ext.tr p n, hz, r⟩
    · rw [List.getElem?_set_ne q] at e ⊢
      exact st1.env_.at_ j sl e
  · have own_ne : ∀ j, j ≠ i → isOwn env[j]? → σ[j]? ≠ some (some (V.ref p)) := fun j _ hj z => by
      cases hs : env[j]? with
      | none => rw [hs] at hj; exact hj
      | some sl =>
        rw [hs] at hj
        obtain ⟨o, ho, hr⟩ := st.env_.at_ j sl hs
        rw [ho] at z
        cases z
        cases sl with
        | none => exact hj
        | some sl =>
          cases sl with
          | val d => exact hj
          | own es => obtain ⟨a, us, e1, e2, _⟩ := hr; cases e1; rw [n] at e2; cases e2
          | obj c fs => obtain ⟨a, dx, us, e1, e2, _⟩ := hr; cases e1; rw [n] at e2; cases e2
    have un : ∀ j, j ≠ i → isOwn (env.set i (some (.own ds)))[j]? → isOwn env[j]? := fun j hj h => by
      rw [List.getElem?_set_ne (Ne.symm hj)] at h; exact h
    have at_i : ∀ j, j = i → isOwn (env.set i (some (.own ds)))[j]? → (σ.set i (some (V.ref p)))[j]? = some (some (V.ref p)) := fun j hj h => by
      subst hj
      have hl : j < env.length := by
        by_cases hl : j < env.length
        · exact hl
        · rw [List.set_eq_of_length_le (by omega), List.getElem?_eq_none (by omega)] at h; exact h.elim
      exact List.getElem?_set_self (by rw [st.env_.len]; exact hl)
    by_cases qa : a = i
    · by_cases qb : b = i
      · exact absurd (qa.trans qb.symm) ne
      · rw [at_i a qa ha, List.getElem?_set_ne (Ne.symm qb)]
        exact fun z => own_ne b qb (un b qb hb) z.symm
    · by_cases qb : b = i
      · rw [at_i b qb hb, List.getElem?_set_ne (Ne.symm qa)]
        exact own_ne a qa (un a qa ha)
      · rw [List.getElem?_set_ne (Ne.symm qa), List.getElem?_set_ne (Ne.symm qb)]
        exact st.env_.apart a b ne (un a qa ha) (un b qb hb)
/-- one's own list is written -/
theorem StG.put {G H : Hp} {σ : L2.St} {env : Env} {s : S} {ds es : List D} {us : List V} {i : Nat} {a : Addr} (st : StG F G σ H env s) (hi : env[i]? = some (some (.own ds))) (ha : σ[i]? = some (some (.ref a))) (r : RepL F.toCc G es us) (hz : us.length ≤ sizeLine) :
    StG F G σ (upd H a (.lst us)) (env.set i (some (.own es))) s := by
  obtain ⟨o, ho, a', vs, e1, hH, hG, nr, h0, hz0, r0⟩ := st.env_.at_ i _ hi
  rw [ha] at ho
  cases ho
  cases e1
  have hl : i < env.length := (List.getElem?_eq_some_iff.mp hi).1
  refine ⟨⟨st.ext.g, fun b o hb nb nt => ?_, st.ext.nw, fun b hb => ?_⟩, st.gd.write hH hG nr _, by rw [List.length_set]; exact st.env_.len, fun j sl e => ?_, fun x y ne hx hy => ?_⟩
  · have hb' := st.ext.fr b o hb nb nt
    rw [upd_ne (fun z => by rw [z, h0] at hb; cases hb)]; exact hb'
  · by_cases q : b = a
    · subst q; rw [upd_same] at hb; cases hb
    · rw [upd_ne q] at hb; exact st.ext.tr b hb
  · by_cases q : i = j
    · subst q
      rw [List.getElem?_set_self hl] at e
      cases e
      exact ⟨_, ha, a, us, rfl, upd_same, hG, nr, h0, hz, r⟩
    · rw [List.getElem?_set_ne q] at e
      obtain ⟨o, ho, hr⟩ := st.env_.at_ j sl e
      refine ⟨o, ho, ?_⟩
      cases sl with
      | none => trivial
      | some sl =>
        cases sl with
        | val d => exact hr
        | own ds' =>
          obtain ⟨b, ws, e1, e2, e3⟩ := hr
          have nb : b ≠ a := fun z => st.env_.apart i j q (by rw [hi]; trivial) (by rw [e]; trivial) (by rw [ha, ho, e1, z])
          exact ⟨b, ws, e1, by rw [upd_ne nb]; exact e2, e3⟩
        | obj c fs =>
          obtain ⟨b, dx, ws, e1, e2, e2', e3⟩ := hr
          have nb : b ≠ a := fun z => by rw [z, hH] at e2; cases e2
          have nd : dx ≠ a := fun z => by rw [z, hH] at e2'; cases e2'
          exact ⟨b, dx, ws, e1, by rw [upd_ne nb]; exact e2, by rw [upd_ne nd]; exact e2', e3⟩
  · have un : ∀ j, isOwn (env.set i (some (.own es)))[j]? → isOwn env[j]? := fun j h => by
      by_cases q : i = j
      · subst q; rw [hi]; trivial
      · rw [List.getElem?_set_ne q] at h; exact h
    exact st.env_.apart x y ne (un x hx) (un y hy)
/-- x.append(e), x a list of one's own -/
def sApp (i : Nat) (τ : Env → M S D) : Env → M S Flw := fun env => match env[i]? with
  | some (some (.own _)) => do
    let d ← τ env
    (match env[i]? with
    | some (some (.own ds)) => grd (ds.length < sizeLine) (pure (.nx (env.set i (some (.own (ds ++ [d]))))))
    | _ => stk)
  | _ => stk
theorem own_at {G H : Hp} {σ : L2.St} {env : Env} {s : S} {ds : List D} {i : Nat} (st : StG F G σ H env s) (hi : env[i]? = some (some (.own ds))) : ∃ a vs, σ[i]? = some (some (V.ref a)) ∧ H a = some (.lst vs) ∧ G a = none ∧ ¬ F.reg a ∧ F.H0 a = none ∧ vs.length ≤ sizeLine ∧ RepL F.toCc G ds vs := by
  obtain ⟨o, ho, a, vs, e1, r⟩ := st.env_.at_ i _ hi
  exact ⟨a, vs, by rw [ho, e1], r⟩
/-- x.extend(e), e a list -/
def sExt (i : Nat) (τ : Env → M S D) : Env → M S Flw := fun env => match env[i]? with
  | some (some (.own _)) => do
    let d ← τ env
    (match env[i]? with
    | some (some (.own ds)) => onLst (fun es => grd (ds.length + es.length ≤ sizeLine) (pure (.nx (env.set i (some (.own (ds ++ es))))))) d
    | _ => stk)
  | _ => stk
/-- return x, x a list of one's own -/
def sRetO (i : Nat) : Env → M S Flw := fun env => match env[i]? with
  | some (some (.own ds)) => pure (.rt (.lst ds))
  | _ => stk
theorem ds_retO {i : Nat} {o : Expr} {pos : Pos} (ho : PE X o (tVar i)) : PS X (.Return (some o) pos) (tS F (sRetO i)) := ps_mono (ps_ret ho) fun D σ H ⟨G, env, s, st, p⟩ => by
  have p : Post F G H ((match env[i]? with
    | some (some (.own ds)) => pure (.rt (.lst ds))
    | _ => stk : M S Flw) s) (FP F G D) := p
  cases hi : env[i]? with
  | none => rw [hi] at p; exact p.elim
  | some sl =>
    rw [hi] at p
    cases sl with
    | none => exact p.elim
    | some sl =>
      cases sl with
      | val _ => exact p.elim
      | obj _ _ => exact p.elim
      | own ds =>
        obtain ⟨a, vs, hσ, hH, hG, nr, h0, hz, rl⟩ := own_at st hi
        have ss : Same G (upd G a (.lst vs)) := fun b o hb => by rw [upd_ne (ne_of_none hb hG)]; exact hb
        refine ⟨.ref a, hσ, p (.ref a) (upd G a (.lst vs)) H ss ⟨st.ext.g.trans ss, st.ext.fr, fun b o hb => ?_, st.ext.tr⟩ (st.gd.freeze hH nr) ⟨a, vs, rfl, upd_same, hz, rl.mono ss⟩⟩
        by_cases q : b = a
        · subst q; exact .inr (.inl h0)
        · rw [upd_ne q] at hb; exact st.ext.nw b o hb
/-! ### enumerate(list) -/
def enumL (k : Nat) : List D → List D
  | [] => []
  | d :: r => .tup [.int (k : Int), d] :: enumL (k + 1) r
theorem enumL_get : ∀ (ds : List D) (k i : Nat), (enumL k ds)[i]? = ds[i]?.map fun d => D.tup [.int ((k + i : Nat) : Int), d]
  | [], k, i => by simp [enumL]
  | d :: r, k, 0 => by simp [enumL]
  | d :: r, k, i + 1 => by
    rw [enumL, List.getElem?_cons_succ, List.getElem?_cons_succ, enumL_get r (k + 1) i]
    rw [show k + 1 + i = k + (i + 1) by omega]
theorem enumL_length : ∀ (ds : List D) (k : Nat), (enumL k ds).length = ds.length
  | [], _ => rfl
  | d :: r, k => by rw [enumL, List.length_cons, List.length_cons, enumL_length r]
theorem itd_enum {G : Hp} {a : Addr} {vs : List V} {ds : List D} (q0 : G a = some (.lst vs)) (r : RepL F.toCc G ds vs) : ItD F G (Ite F.K a) (enumL 0 ds) := fun G' H' s e g => by
  have q' : SqL F.K H' a vs := .inl (.inl (g.gh _ _ (e _ _ q0)))
  refine ⟨fun i d hd => ?_, fun i hi => ⟨vs, q', by rw [r.length]; rw [enumL_length] at hi; exact hi⟩⟩
  rw [enumL_get] at hd
  obtain ⟨d0, h0, rfl⟩ := Option.map_eq_some_iff.mp hd
  obtain ⟨v, hv, rv⟩ := r.get h0
  refine ⟨⟨vs, v, q', hv⟩, fun x H2 y => ?_⟩
  obtain ⟨T, z, rfl, hT, rfl, y⟩ := y
  have hz := y vs q'
  rw [hv] at hz
  cases hz
  obtain ⟨g2, e2⟩ := g.new hT (.tup [.int (i : Nat), v])
  refine ⟨_, e2, g2, T, [.int (i : Nat), v], rfl, SqT.upd, by show 2 ≤ sizeLine; decide, ?_⟩
  rw [Nat.zero_add]
  exact RepL.cons rfl (RepL.one (rv.mono (e.trans e2.g)))
theorem itd_enumT {G : Hp} {a : Addr} {vs : List V} {ds : List D} (q0 : SqT F.K G a vs) (r : RepL F.toCc G ds vs) : ItD F G (IteT F.K a) (enumL 0 ds) := fun G' H' s e g => by
  have q' : SqT F.K H' a vs := SqT.sub g.gh (SqT.sub e q0)
  refine ⟨fun i d hd => ?_, fun i hi => ⟨vs, q', by rw [r.length]; rw [enumL_length] at hi; exact hi⟩⟩
  rw [enumL_get] at hd
  obtain ⟨d0, h0, rfl⟩ := Option.map_eq_some_iff.mp hd
  obtain ⟨v, hv, rv⟩ := r.get h0
  refine ⟨⟨vs, v, q', hv⟩, fun x H2 y => ?_⟩
  obtain ⟨T, z, rfl, hT, rfl, y⟩ := y
  have hz := y vs q'
  rw [hv] at hz
  cases hz
  obtain ⟨g2, e2⟩ := g.new hT (.tup [.int (i : Nat), v])
  refine ⟨_, e2, g2, T, [.int (i : Nat), v], rfl, SqT.upd, by show 2 ≤ sizeLine; decide, ?_⟩
  rw [Nat.zero_add]
  exact RepL.cons rfl (RepL.one (rv.mono (e.trans e2.g)))
def iEnm (τ : Env → M S (List D)) : Env → M S (List D) := fun env => do a1 (onSeq fun ds => pure (enumL 0 ds)) (← τ env)
theorem di_enum {elts : List Expr} {kk : Nat} {tpos p pos : Pos} {e : Expr} {τ : Env → M S (List D)} (hK : X.K = F.K) (hg : Gl X "enumerate") (hm : X.mg "enumerate" = none) (ha : PA X [e] (tA F τ)) (hs : starEach [e] X.env = [(false, eval e X.env)] := by rfl) :
    PI X (.Tuple elts kk tpos) (.Call (.Name "enumerate" p) [e] [] pos) (tI F (iEnm τ)) := pi_mono (pi_enumS hg hm ha hs) fun σ H R ⟨G, env, s, st, p⟩ => by
  refine seqA st p fun ds s1 vs G1 H1 e1 st1 r1 p1 => ?_
  obtain ⟨d, rfl, p1⟩ := Post.a1 p1
  obtain ⟨v, rfl, ra⟩ := r1.r1
  cases d with
  | lst es =>
    obtain ⟨a, us, rfl, q, hz, rl⟩ := ra
    exact ⟨a, us, rfl, .inl ⟨.inl (.inl (st1.gd.gh _ _ q)), p1 _ G1 H1 e1 st1 (hK ▸ itd_enum q rl)⟩⟩
  | tup es =>
    obtain ⟨a, us, rfl, q, hz, rl⟩ := ra
    exact ⟨a, us, rfl, .inr ⟨hK ▸ SqT.sub st1.gd.gh q, p1 _ G1 H1 e1 st1 (hK ▸ itd_enumT q rl)⟩⟩
  | _ => exact p1.elim
/-! ### list(range(e)) -/
theorem repL_rng (C : Cc S) (G : Hp) (a : Int) : ∀ n k : Nat, RepL C G ((List.range' k n).map fun (i : Nat) => D.int (a + (i : Int))) ((List.range' k n).map fun (i : Nat) => V.int (a + (i : Int)))
  | 0, _ => rfl
  | n + 1, k => by
    rw [List.range'_succ, List.map_cons, List.map_cons]
    exact RepL.cons rfl (repL_rng C G a n (k + 1))
def lrgD (τ : Env → M S D) : Env → M S D := fun env => do onInt (fun j => grd (0 ≤ j ∧ j ≤ 16777216) (pure (.lst (rngD 0 j)))) (← τ env)
theorem de_listRg {a : Expr} {τ : Env → M S D} {p p2 pos pos2 : Pos} (hc : X.calm = true) (hg : Gl X "list") (hm : X.mg "list" = none) (hg2 : Gl X "range") (hm2 : X.mg "range" = none) (ha : PE X a (tE F τ))
    (na : starEach [a] X.env = (false, eval a X.env) :: starEach [] X.env := by rfl) (nb : starEach [.Call (.Name "range" p2) [a] [] pos2] X.env = (false, eval (.Call (.Name "range" p2) [a] [] pos2) X.env) :: starEach [] X.env := by rfl) :
    PE X (.Call (.Name "list" p) [.Call (.Name "range" p2) [a] [] pos2] [] pos) (tE F (lrgD τ)) := pe_mono (pe_listRg hc hg hm (prg_1 hg2 hm2 ha na) nb) fun σ H Q ⟨G, env, s, st, p⟩ => by
  refine seqE st p fun d s1 v G1 H1 e1 st1 r1 p1 => ?_
  obtain ⟨j, rfl, p1⟩ := Post.onInt p1
  obtain ⟨hj, p2⟩ := Post.grd p1
  cases r1
  refine ⟨j, rfl, RgOk.of_le (by omega) hj.2 (by omega) hj.1, fun q nq => ?_⟩
  obtain ⟨e2, st2⟩ := st1.new nq (.lst (rgV 0 j))
  refine p2 _ _ _ (e1.trans e2) st2 ⟨q, _, rfl, upd_same, ?_, ?_⟩
  · rw [rgV_length, sizeLine_eq]; omega
  · have := repL_rng F.toCc (upd G1 q (.lst (rgV 0 j))) 0 (j - 0).toNat 0
    have e1 : rngD 0 j = (List.range' 0 (j - 0).toNat).map fun (i : Nat) => D.int (0 + (i : Int)) := by unfold rngD; rw [List.range_eq_range']
    have e2 : rgV 0 j = (List.range' 0 (j - 0).toNat).map fun (i : Nat) => V.int (0 + (i : Int)) := by unfold rgV; rw [List.range_eq_range']
    rw [← e1, ← e2] at this
    exact this
/-! ### an instance called -/
/-! ### no claim of a def -/
/-! ### an __init__ with defaults -/
end DL
set_option Elab.async false
set_option linter.all false
set_option maxRecDepth 100000
set_option maxHeartbeats 4000000
set_option autoImplicit false
/-! DL: exceptions as values: made (by place, by keyword), asked by isinstance, their attributes read -/
namespace DL
open PySem PySem.Spec PyProof.Rows L2
/-! ### an exception class called with keywords -/
end DL
set_option Elab.async false
set_option linter.all false
set_option maxRecDepth 100000
set_option maxHeartbeats 4000000
set_option autoImplicit false
/-! DL: exceptions as values: rules -/
namespace DL
open PySem PySem.Spec PyProof.Rows L2
variable {S : Type} {X : Cx} {F : Fx S}
/-! ### isinstance of an exception -/
def rIsX (K : PySem.W.Frag) : List V → Hp → VK → Prop := fun xs H Q => ∃ (a C : Addr) (dd : Option Addr) (c : V) (u : Value) (b : Bool), xs = [.ref a, c] ∧ ClsV c u ∧ H a = some (exv a C dd) ∧ (dd = none ∨ ∃ d fs, dd = some d ∧ H d = some (.xd fs)) ∧ ExcC K C ∧ PySem.W.kitOne K (.ref C) u = some b ∧ Q (.bl b) H
theorem inst_exv {pins : List (Addr × Obj)} {σ : L2.St} {H : Hp} {s : Shared} {a C : Addr} {dd : Option Addr} (I : Inv X pins σ H s) (ha : H a = some (exv a C dd)) (hd : dd = none ∨ ∃ d fs, dd = some d ∧ H d = some (.xd fs)) : ∃ oe od, PySem.W.InstAt s.heap a oe C od := by
  obtain ⟨oe, vs, ho, hz, hv⟩ := exv_at I.hok ha
  rcases hd with rfl | ⟨d, fs, rfl, hd⟩
  · exact ⟨oe, none, ho, hz.1, by unfold PySem.W.notCls; rw [hv] <;> rfl, by rw [hz.2]; trivial⟩
  · have hx : ObjOk X.prog X.w H s.heap d (.xd fs) := I.hok d _ hd
    obtain ⟨mA, hns, hr⟩ := hx
    obtain ⟨od, ho', _⟩ := lookIn_ns hns
    exact ⟨oe, some od, ho, hz.1, by unfold PySem.W.notCls; rw [hv] <;> rfl, by rw [hz.2]; exact ho'⟩
theorem call_isX : CallR X (.builtin "isinstance") (rIsX X.K) := by
  intro pins s σ H xs us Q I r h
  obtain ⟨a, C, dd, c, u, b, rfl, k, ha, hd, T, e, q⟩ := h
  obtain ⟨u1, u2, rfl, r1, r2⟩ := vals2 r
  have e2 := k.eq r2
  subst e2
  cases (show u1 = Value.ref a from r1)
  obtain ⟨oe, od, J⟩ := inst_exv I ha hd
  have hcl : (PySem.W.clsIn X.K C).isSome = true := by
    obtain ⟨cd, hc, _⟩ := PySem.W.any_some T.hd
    rw [hc]; rfl
  exact PySem.W.kia_one (PySem.W.kitx_exc hcl T.hg T.hk T.hs T.ha T.hn T.ht T.hm) I.kIn J e (fun z => nomatch z) fun tk => ⟨.bl b, H, I.tok tk, rfl, q⟩
/-- the answers of a table of exception classes are the library's -/
def KxOk (K : PySem.W.Frag) (cad : Str → Addr) (an : Value → Option Bool) (tbx : Str → Option Bool) : Prop := ∀ c b, tbx c = some b → ExcC K (cad c) ∧ an (.ref (cad c)) = some b
def isiXD (tb tbx : Str → Option Bool) : D → M S D := fun d => match d with
  | .exc c _ => (match tbx c with
    | some b => pure (.bl b)
    | none => stk)
  | d => isiD tb d
def isiX (tb tbx : Str → Option Bool) (τ : Env → M S D) : Env → M S D := fun env => do isiXD tb tbx (← τ env)
theorem excOr (tb tbx : Str → Option Bool) (d : D) : (∃ c fs, d = .exc c fs) ∨ (isiXD tb tbx d : M S D) = isiD tb d := by
  cases d <;> first | exact .inl ⟨_, _, rfl⟩ | exact .inr rfl
theorem de_isiX {e T : Expr} {p pos : Pos} {tb tbx : Str → Option Bool} {τ : Env → M S D} {c : V} {u : Value} (hK : X.K = F.K) (kt : KitOk F.K F.cad (fun t => PySem.W.kitOne F.K t u) tb) (kx : KxOk F.K F.cad (fun t => PySem.W.kitOne F.K t u) tbx) (hc : ClsV c u) (ha : PE X e (tE F τ)) (hT : PE X T (tC c)) (hg : Gl X "isinstance") (hm : X.mg "isinstance" = none)
    (he : starEach [e, T] X.env = (false, eval e X.env) :: starEach [T] X.env := by rfl) (he2 : starEach [T] X.env = (false, eval T X.env) :: starEach [] X.env := by rfl) (hpl : (backTo pos (starEach [T] X.env)).any (·.1) = false := by rfl) :
    PE X (.Call (.Name "isinstance" p) [e, T] [] pos) (tE F (isiX tb tbx τ)) :=
  pe_mono (pe_callB (CallR_or call_isi call_isX) hg hm (by decide +kernel) (pa_cons ha (pa_cons hT pa_nil he2) he) (by decide) (by decide) he hpl) fun σ H Q ⟨G, env, s, st, p⟩ => by
    refine seqE st p fun d s1 v G1 H1 e1 st1 r1 p1 => ?_
    rcases excOr (S := S) tb tbx d with ⟨cn, fs, rfl⟩ | he
    · obtain ⟨a, dd, rfl, ga, hd⟩ := r1
      have p1 : Post F G1 H1 ((match tbx cn with
        | some b => pure (.bl b)
        | none => stk : M S D) s1) (K1 F G H σ env Q) := p1
      cases hb : tbx cn with
      | none => rw [hb] at p1; exact p1.elim
      | some b =>
        rw [hb] at p1
        obtain ⟨T1, T2⟩ := kx cn b hb
        refine .inr ⟨a, F.cad cn, dd, c, u, b, rfl, hc, st1.gd.gh _ _ ga, ?_, hK ▸ T1, hK ▸ T2, p1 _ G1 H1 e1 st1 rfl⟩
        rcases hd with ⟨_, rfl⟩ | ⟨d, vs, rfl, gd, _⟩
        · exact .inl rfl
        · exact .inr ⟨d, vs, rfl, st1.gd.gh _ _ gd⟩
    · have p1 : Post F G1 H1 ((isiXD tb tbx d : M S D) s1) (K1 F G H σ env Q) := p1
      rw [he] at p1
      obtain ⟨b, hb, p2⟩ := isiD_ok p1
      obtain ⟨t, ht, ha⟩ := ty_of kt st1.gd.gh r1 hb
      exact .inl ⟨_, c, t, u, b, rfl, hc, hK ▸ ht, hK ▸ ha, p2 _ G1 H1 e1 st1 rfl⟩
/-! ### err.f -/
def tXv (K : PySem.W.Frag) (f : Str) (te : TE) : TE := fun σ H Q => te σ H fun x H1 => ∃ (a C d : Addr) (fs : List (Str × V)) (v : V), x = .ref a ∧ H1 a = some (exv a C (some d)) ∧ H1 d = some (.xd fs) ∧ ExcC K C ∧ PySem.W.findIn K (.ref C) f = some none ∧ fs.lookup f = some v ∧ Q v H1
theorem pe_xv {e : Expr} {te : TE} {pos : Pos} {n : Str} (he : PE X e te) (hb : attributeBase e n X.env (eval e X.env) = eval e X.env := by rfl) : PE X (.Attribute e n pos) (tXv X.K n te) := by
  refine ⟨fun pins s σ H Q I h => ?_⟩
  refine attr_of hb (thn (he.run pins s σ H _ I h) fun u s1 hh => ?_)
  obtain ⟨x, H1, I1, rx, a, C, d, fs, v, ex, ea, ed, T, hno, l, q⟩ := hh
  subst ex
  obtain rfl : u = Value.ref a := rx
  obtain ⟨oe, vs, ho, hz, hv⟩ := exv_at I1.hok ea
  have hx : ObjOk X.prog X.w H1 s1.heap d (.xd fs) := I1.hok d _ ed
  obtain ⟨mA, hns, hr⟩ := hx
  obtain ⟨od, ho', hl⟩ := lookIn_ns hns
  obtain ⟨u, hu, ru⟩ := RelO.some_of (v := v) (o := mA n) (by rw [← l]; exact hr n)
  have J : PySem.W.InstAt s1.heap a oe C (some od) := ⟨ho, hz.1, by unfold PySem.W.notCls; rw [hv] <;> rfl, by rw [hz.2]; exact ho'⟩
  exact HandSPX.exc_get I1.kIn J T.hg T.hk T.hs (PySem.W.findObj_own T.hd hno rfl (by rw [hl, hu])) (handed_of ru) ⟨v, H1, I1.tok _, ru, q⟩
/-- the attribute f of an exception of one of the classes cs -/
def xfD (cs : List Str) (f : Str) (τ : Env → M S D) : Env → M S D := fun env => do
  match ← τ env with
  | .exc c fs => (match fs.lookup f with
    | some d => grd (c ∈ cs) (pure d)
    | none => stk)
  | _ => stk
theorem de_xf {cs : List Str} {f : Str} {τ : Env → M S D} {e : Expr} {pos : Pos} (hK : X.K = F.K) (hcs : ∀ c ∈ cs, ExcC F.K (F.cad c) ∧ PySem.W.findIn F.K (.ref (F.cad c)) f = some none) (he : PE X e (tE F τ)) (hb : attributeBase e f X.env (eval e X.env) = eval e X.env := by rfl) : PE X (.Attribute e f pos) (tE F (xfD cs f τ)) :=
  pe_mono (pe_xv he hb) fun σ H Q ⟨G, env, s, st, p⟩ => by
    refine seqE st p fun d s1 v G1 H1 e1 st1 r1 p1 => ?_
    cases d with
    | exc c fs =>
      have p1 : Post F G1 H1 ((match fs.lookup f with
        | some d => grd (c ∈ cs) (pure d)
        | none => stk : M S D) s1) (K1 F G H σ env Q) := p1
      cases q : fs.lookup f with
      | none => rw [q] at p1; exact p1.elim
      | some d0 =>
        rw [q] at p1
        obtain ⟨hc, p2⟩ := Post.grd p1
        obtain ⟨a, dd, rfl, ga, hd⟩ := r1
        rcases hd with ⟨rfl, _⟩ | ⟨d, vs, rfl, gd, rf⟩
        · cases q
        · obtain ⟨w, hw, rw_⟩ := (rf.lookup (m := f)).2 d0 q
          obtain ⟨T1, T2⟩ := hcs c hc
          exact ⟨a, F.cad c, d, vs, w, rfl, st1.gd.gh _ _ ga, st1.gd.gh _ _ gd, hK ▸ T1, hK ▸ T2, hw, p2 w G1 H1 e1 st1 rw_⟩
    | _ => exact p1.elim
/-! ### an exception made -/
/-- what __init__(self, p): self.f = p promises -/
def spXI (C : Addr) (f : Str) : Sp := fun vs H Q _ => ∃ (a : Addr) (y : V), vs = [.ref a, y] ∧ H a = some (exo a C none) ∧ ∀ dx, H dx = none → dx ≠ a → Q .non (upd (upd H dx (exd dx [(f, y)])) a (exo a C (some dx)))
theorem spXI_len {C : Addr} {f : Str} {ps : List Str} (h : ps.length = 2) : ∀ vs H Q E, spXI C f vs H Q E → vs.length = ps.length := fun vs H Q E ⟨a, y, e, _⟩ => by rw [e, h]; rfl
theorem fn_xinit {P : Program} {w : World} {K : PySem.W.Frag} {mg : Str → Option Value} {base : Heap} {x qual fld : Str} {stm : Stmt} {f C : Addr} {fd : FuncData} {N ps : List Str} {k : Nat} (Fn : Fun K x qual stm f fd) (Sc : FnScope N ps (defScope stm)) (hl : ps.length = 2) (hN : 2 ≤ N.length) (T : OexC K C) (hno : PySem.W.findIn K (.ref C) fld = some none)
    (hb : ∀ (cdv : Value) (A : Around) (outer : List PySem.Env) (s : Shared) (H : Hp) (E : XK), PSs (cxOf (L2.CX P w) P w K mg base N qual (defScope stm) f cdv A outer s H E) (defBody stm) (tOst K fld (tVar 0) (tVar 1))) : FnOk P w K mg base (L2.CX P w) (k + 1) f fd ps (spXI C fld) := by
  refine Fn.okX Sc (spXI_len hl) fun cdv A outer s H vs Q E hr h => ?_
  obtain ⟨a, y, rfl, ha, hq⟩ := h
  exact ⟨_, hb cdv A outer s H E, y, rfl, .ref a, rfl, a, C, rfl, T, hno, .inl ⟨ha, fun dx n ne => hq dx n ne⟩⟩
/-! ### the rules over data -/
end DL
set_option Elab.async false
set_option linter.all false
set_option maxRecDepth 100000
set_option maxHeartbeats 4000000
set_option autoImplicit false
/-! DL: repr of plain data, where no repr is under way -/
namespace DL
open PySem PySem.Spec PyProof.Rows L2
variable {S : Type} {X : Cx} {F : Fx S}
def keyP : Key → PyData
  | .inl i => .int i
  | .inr x => .str x
def leafV : V → PyData → Prop
  | .non, d => d = .none
  | .bl b, d => d = .bool b
  | .int i, d => d = .int i
  | .str x, d => d = .str x
  | _, _ => False
theorem leaf_reads {h : Heap} {v : V} {u : Value} {d : PyData} (l : leafV v d) (r : RelV v u) : Reads h u d [] := by
  cases v with
  | non => cases (show u = Value.none from r); cases l; exact .none
  | bl b => cases (show u = Value.bool b from r); cases l; exact .bool b
  | int i => obtain ⟨t, rfl⟩ := (show ∃ t, u = Value.int i t from r); cases l; exact .int i t
  | str x => obtain ⟨t, rfl⟩ := (show ∃ t, u = Value.str x t from r); cases l; exact .str x t
  | _ => exact l.elim
theorem key_reads {h : Heap} {k : Key} {u : Value} (e : keyIs k u = true) : Reads h u (keyP k) [] := by
  rcases keyIs_shape e with ⟨i, t, rfl, rfl⟩ | ⟨x, t, rfl, rfl⟩
  · exact .int i t
  · exact .str x t
def rRepr (K : PySem.W.Frag) : List V → Hp → VK → Prop := fun xs H Q => ∃ x, xs = [x] ∧
  ((∃ d : PyData, Dp K H x d ∧ d.hasDict = false ∧ d.showable = true ∧ d.depth ≤ 64 ∧ d.shown.length ≤ sizeLine ∧ Q (.str d.shown) H) ∨
   ∃ (a : Addr) (kvs : List (Key × V)) (ds : List (PyData × PyData)), x = .ref a ∧ H a = some (.dK kvs) ∧ Paired (fun (p : Key × V) (q : PyData × PyData) => q.1 = keyP p.1 ∧ leafV p.2 q.2) kvs ds ∧ (PyData.dict ds).showable = true ∧ (PyData.dict ds).depth ≤ 64 ∧ (PyData.dict ds).shown.length ≤ sizeLine ∧ Q (.str (PyData.dict ds).shown) H)
theorem dict_reads {P : Program} {w : World} {h : Heap} {es : List DictEntry} {vs : List (Key × Value)} {kvs : List (Key × V)} {ds : List (PyData × PyData)} (p : Pairs (mixKind P w) es vs) (k : KV kvs vs) (l : Paired (fun (p : Key × V) (q : PyData × PyData) => q.1 = keyP p.1 ∧ leafV p.2 q.2) kvs ds) :
    ReadsAll h (es.map (·.key)) (ds.map (·.1)) [] ∧ ReadsAll h (es.map (·.val)) (ds.map (·.2)) [] := by
    induction p generalizing kvs ds with
    | nil =>
      cases k
      cases l
      exact ⟨.nil, .nil⟩
    | cons hk hv rest ih =>
      cases k with
      | cons k1 kr =>
        cases l with
        | cons l1 lr =>
          obtain ⟨i1, i2⟩ := ih kr lr
          obtain ⟨e1, r1⟩ := k1
          obtain ⟨f1, f2⟩ := l1
          refine ⟨?_, ?_⟩
          · rw [List.map_cons, List.map_cons, f1, e1]
            exact .cons (as := []) (bs := []) (key_reads hk) i1
          · rw [List.map_cons, List.map_cons]
            exact .cons (as := []) (bs := []) (leaf_reads f2 (by rw [hv]; exact r1)) i2
theorem call_repr (hg : X.A.guards = some []) (hu : X.A.units + 70 < cLine) : CallR X (.builtin "repr") (rRepr X.K) := by
  intro pins s σ H xs us Q I r h
  obtain ⟨x, rfl, h⟩ := h
  obtain ⟨u, rfl, rx⟩ := vals1 r
  rcases h with ⟨d, hd, hn, hs, hdp, hz, q⟩ | ⟨a, kvs, ds, rfl, ha, hl, hs, hdp, hz, q⟩
  · have big : ∀ a : Addr, x = .ref a → wpAny (model X.prog X.w) X.A (call (.builtin "repr") [u]) (EP X pins σ Q) X.xe s := fun a ea => by
      subst ea
      obtain rfl : u = Value.ref a := rx
      obtain ⟨as, rd⟩ := Dp.reads I d (.ref a) (.ref a) hd rfl
      exact repr_of_reads' rd hs (PyData.noDict_hsm hn) hg (by omega) (fun _ _ e => e) (fun h' t tk k => ⟨.str d.shown, H, I.kept (t' := tk) k, ⟨t, rfl⟩, q⟩) hz
    cases hd with
    | non => cases (show u = Value.none from rx); exact P.repr_of_none ⟨.str _, H, I.tok _, ⟨_, rfl⟩, q⟩
    | bl b => cases (show u = Value.bool b from rx); exact P.repr_of_bool ⟨.str _, H, I.tok _, ⟨_, rfl⟩, by cases b <;> exact q⟩
    | int i => obtain ⟨t, rfl⟩ := (show ∃ t, u = Value.int i t from rx); exact P.repr_of_int (by simpa [PyData.showable] using hs) ⟨.str _, H, I.tok _, ⟨_, rfl⟩, q⟩
    | str y => obtain ⟨t, rfl⟩ := (show ∃ t, u = Value.str y t from rx); exact P.repr_of_str ⟨.str _, H, I.tok _, ⟨_, rfl⟩, q⟩ (by simpa only [PyData.shown] using hz)
    | lst _ _ => exact big _ rfl
    | tup _ _ => exact big _ rfl
  · obtain rfl : u = Value.ref a := rx
    obtain ⟨_, hsys, vs, kv, o, es, ep, ho, hx, hdt, _, ps, _⟩ := (show ObjOk X.prog X.w H s.heap a (.dK kvs) from I.hok a _ ha)
    obtain ⟨r1, r2⟩ := dict_reads (h := s.heap) ps kv hl
    have rd : Reads s.heap (.ref a) (.dict ds) (a :: [] ++ []) := .dict ho hx.1 hdt r1 r2
    exact repr_of_reads' rd hs (fun _ z => by
      have e : sysModules = a := by simpa using z
      rw [e] at hsys; simp at hsys) hg (by omega) (fun _ _ e => e) (fun h' t tk k => ⟨.str (PyData.dict ds).shown, H, I.kept (t' := tk) k, ⟨t, rfl⟩, q⟩) hz
/-! ### over data -/
def leafD : D → Option PyData
  | .non => some .none
  | .bl b => some (.bool b)
  | .int i => some (.int i)
  | .str x => some (.str x)
  | _ => none
def leafKv : List (Key × D) → Option (List (PyData × PyData))
  | [] => some []
  | (k, d) :: r => match leafD d, leafKv r with
    | some a, some b => some ((keyP k, a) :: b)
    | _, _ => none
def shwD : D → Option PyData
  | .dct kvs => (leafKv kvs).map .dict
  | d => pd d
def reprD : List D → M S D := a1 fun d => match shwD d with
  | some a => grd (a.showable = true ∧ a.depth ≤ 64 ∧ a.shown.length ≤ sizeLine) (pure (.str a.shown))
  | none => stk
mutual
theorem pd_nodict : ∀ {d : D} {a : PyData}, pd d = some a → a.hasDict = false
  | .non, _, e => by cases e; rfl
  | .bl _, _, e => by cases e; rfl
  | .int _, _, e => by cases e; rfl
  | .str _, _, e => by cases e; rfl
  | .lst ds, _, e => by
    unfold pd at e
    obtain ⟨as, ea, rfl⟩ := Option.map_eq_some_iff.mp e
    simp only [PyData.hasDict, pdL_nodict ea]
  | .tup ds, _, e => by
    unfold pd at e
    obtain ⟨as, ea, rfl⟩ := Option.map_eq_some_iff.mp e
    simp only [PyData.hasDict, pdL_nodict ea]
  | .dct _, _, e => nomatch e
  | .ins _ _, _, e => nomatch e
  | .exc _ _, _, e => nomatch e
  | .hnd _, _, e => nomatch e
  | .dks _, _, e => nomatch e
  | .fn _, _, e => nomatch e
  | .adr _ _, _, e => nomatch e
  | .rps _, _, e => nomatch e
  | .scr _, _, e => nomatch e
theorem pdL_nodict : ∀ {ds : List D} {as : List PyData}, pdL ds = some as → PyData.hasDictAll as = false
  | [], _, e => by cases e; rfl
  | d :: ds, _, e => by
    unfold pdL at e
    split at e
    · rename_i x y hx hy
      cases e
      simp only [PyData.hasDictAll, pd_nodict hx, pdL_nodict hy, Bool.or_self]
    · cases e
end
theorem leafD_rep {C : Cc S} {G : Hp} {d : D} {v : V} {a : PyData} (h : leafD d = some a) (r : Rep C G d v) : leafV v a := by
  cases d <;> first | cases h; cases r; rfl | cases h
theorem leafKv_rep {C : Cc S} {G : Hp} : ∀ {kvs : List (Key × D)} {vs : List (Key × V)} {ds : List (PyData × PyData)}, leafKv kvs = some ds → RepK C G kvs vs → Paired (fun (p : Key × V) (q : PyData × PyData) => q.1 = keyP p.1 ∧ leafV p.2 q.2) vs ds
  | [], _, _, h, r => by
    have e : _ = [] := r
    subst e
    cases h
    exact .nil
  | (k, d) :: kvs, _, _, h, ⟨v, r, e, a, b⟩ => by
    subst e
    unfold leafKv at h
    split at h
    · rename_i x y hx hy
      cases h
      exact .cons ⟨rfl, leafD_rep hx a⟩ (leafKv_rep hy b)
    · cases h
theorem shwOr (d : D) : (∃ kvs, d = .dct kvs) ∨ shwD d = pd d := by cases d <;> first | exact .inl ⟨_, rfl⟩ | exact .inr rfl
theorem cd_repr (hK : X.K = F.K) : CallD F (rRepr X.K) reprD := fun G σ H env s ds vs Q st r p => by
  rw [hK]
  obtain ⟨d, rfl, p1⟩ := p.a1
  obtain ⟨v, rfl, rv⟩ := r.r1
  cases hs : shwD d with
  | none => rw [hs] at p1; exact p1.elim
  | some a =>
    rw [hs] at p1
    obtain ⟨⟨h1, h2, h3⟩, p2⟩ := Post.grd p1
    have fin := p2 (.str a.shown) G H (Ext.refl _ _ _) st rfl
    rcases shwOr d with ⟨kvs, rfl⟩ | e
    · have hs : (leafKv kvs).map PyData.dict = some a := hs
      obtain ⟨ds, hd, rfl⟩ := Option.map_eq_some_iff.mp hs
      obtain ⟨q, us, rfl, gq, rk⟩ := rv
      exact ⟨_, rfl, .inr ⟨q, us, ds, rfl, st.gd.gh _ _ gq, leafKv_rep hd rk, h1, h2, h3, fin⟩⟩
    · rw [e] at hs
      exact ⟨_, rfl, .inl ⟨a, pd_dp st.gd.gh rv hs, pd_nodict hs, h1, h2, h3, fin⟩⟩
end DL
set_option Elab.async false
set_option linter.all false
set_option maxRecDepth 100000
set_option maxHeartbeats 4000000
set_option autoImplicit false
namespace DL
open PySem PySem.Spec PyProof.Rows L2
/-! ### what the readings do, one turn -/
section
variable {S : Type} {α : Type} {env : Env} {s : S} {τ υ ω : Env → M S D} {t u : Env → M S Bool} {a b : Env → M S Flw} {l : Env → M S (List D)} {d e : D}
@[simp] theorem grd_run {p : Prop} [Decidable p] {m : M S α} : grd p m s = if p then m s else .stk := by
  unfold grd; split <;> rfl
@[simp] theorem sNx_run : (sNx : Env → M S Flw) env s = .ok (.nx env) s := rfl
@[simp] theorem sBk_run : (sBk : Env → M S Flw) env s = .ok (.bk env) s := rfl
@[simp] theorem sCt_run : (sCt : Env → M S Flw) env s = .ok (.ct env) s := rfl
@[simp] theorem sNo_run : (sNo : Env → M S Flw) env s = .stk := rfl
@[simp] theorem sRetN_run : (sRetN : Env → M S Flw) env s = .ok (.rt .non) s := rfl
@[simp] theorem sRet_run : sRet τ env s = (τ env s).bind fun d s' => .ok (.rt d) s' := rfl
@[simp] theorem sDrop_run : sDrop τ env s = (τ env s).bind fun _ s' => .ok (.nx env) s' := rfl
@[simp] theorem sSeq_run : sSeq a b env s = (a env s).bind fun f s' => match f with
  | .nx e => b e s'
  | f => .ok f s' := by
  show (a env s).bind _ = _
  cases a env s with
  | ok f s' => cases f <;> rfl
  | err _ _ => rfl
  | stk => rfl
@[simp] theorem sIf_run : sIf t a b env s = (t env s).bind fun k s' => if k then a env s' else b env s' := by
  show (t env s).bind _ = _
  cases t env s with
  | ok k s' => cases k <;> rfl
  | err _ _ => rfl
  | stk => rfl
@[simp] theorem sAsg_run {γ : D → Env → M S Env} : sAsg τ γ env s = (τ env s).bind fun d s1 => (γ d env s1).bind fun e s2 => .ok (.nx e) s2 := rfl
@[simp] theorem gNm_run {i : Nat} : (gNm i : D → Env → M S Env) d env s = .ok (env.set i (some (.val d))) s := rfl
@[simp] theorem rC_run : (rC d : Env → M S D) env s = .ok d s := rfl
@[simp] theorem rNo_run : (rNo : Env → M S D) env s = .stk := rfl
theorem rVar_run {i : Nat} (h : env[i]? = some (some (.val d))) : (rVar i : Env → M S D) env s = .ok d s := by
  unfold rVar; rw [h]; rfl
@[simp] theorem rVar_zero {env : Env} : (rVar 0 : Env → M S D) (some (.val d) :: env) s = .ok d s := rfl
@[simp] theorem rVar_succ {i : Nat} {x : Option Slot} {env : Env} : (rVar (i + 1) : Env → M S D) (x :: env) s = rVar i env s := by
  unfold rVar; rw [List.getElem?_cons_succ]
@[simp] theorem bin_run {f : D → D → M S D} : bin f τ υ env s = (τ env s).bind fun x s1 => (υ env s1).bind fun y s2 => f x y s2 := rfl
@[simp] theorem chn_run {f g : D → D → M S D} : chn f g τ υ ω env s = (τ env s).bind fun x s1 => (υ env s1).bind fun y s2 => (f x y s2).bind fun k s3 => match k with
  | .bl true => (ω env s3).bind fun z s4 => (g y z s4).bind fun k s5 => (match k with
    | .bl b => .ok (.bl b) s5
    | _ => .stk)
  | .bl false => .ok (.bl false) s3
  | _ => .stk := by
  show (τ env s).bind _ = _
  congr 1; funext x s1
  show (υ env s1).bind _ = _
  congr 1; funext y s2
  show (f x y s2).bind _ = _
  congr 1; funext k s3
  cases k with
  | bl b =>
    cases b with
    | false => rfl
    | true =>
      show (ω env s3).bind _ = _
      congr 1; funext z s4
      show (g y z s4).bind _ = _
      congr 1; funext k s5
      cases k <;> rfl
  | _ => rfl
@[simp] theorem asT_run : asT τ env s = (τ env s).bind fun d s' => match d with
  | .bl b => .ok b s'
  | _ => .stk := by
  show (τ env s).bind _ = _
  congr 1; funext k s3
  cases k <;> rfl
@[simp] theorem asTr_run : asTr τ env s = (τ env s).bind fun d s' => truD d s' := rfl
@[simp] theorem andT_run : andT t u env s = (t env s).bind fun k s' => if k then u env s' else .ok false s' := by
  show (t env s).bind _ = _
  congr 1; funext k s3
  cases k <;> rfl
@[simp] theorem orT_run : orT t u env s = (t env s).bind fun k s' => if k then .ok true s' else u env s' := by
  show (t env s).bind _ = _
  congr 1; funext k s3
  cases k <;> rfl
@[simp] theorem notT_run : notT t env s = (t env s).bind fun k s' => .ok (!k) s' := rfl
@[simp] theorem iteE_run : iteE t τ υ env s = (t env s).bind fun k s' => if k then τ env s' else υ env s' := by
  show (t env s).bind _ = _
  congr 1; funext k s3
  cases k <;> rfl
@[simp] theorem andV_run : andV τ υ env s = (τ env s).bind fun x s1 => (truD x s1).bind fun k s2 => if k then υ env s2 else .ok x s2 := by
  show (τ env s).bind _ = _
  congr 1; funext x s1
  show (truD x s1).bind _ = _
  congr 1; funext k s3
  cases k <;> rfl
@[simp] theorem orV_run : orV τ υ env s = (τ env s).bind fun x s1 => (truD x s1).bind fun k s2 => if k then .ok x s2 else υ env s2 := by
  show (τ env s).bind _ = _
  congr 1; funext x s1
  show (truD x s1).bind _ = _
  congr 1; funext k s3
  cases k <;> rfl
@[simp] theorem notV_run : notV τ env s = (τ env s).bind fun x s1 => (truD x s1).bind fun k s2 => .ok (.bl (!k)) s2 := rfl
@[simp] theorem aNil_run : (aNil : Env → M S (List D)) env s = .ok [] s := rfl
@[simp] theorem aCons_run : aCons τ l env s = (τ env s).bind fun x s1 => (l env s1).bind fun xs s2 => .ok (x :: xs) s2 := rfl
@[simp] theorem lstD_run : lstD l env s = (l env s).bind fun xs s1 => if xs.length ≤ sizeLine then .ok (.lst xs) s1 else .stk := by
  show (l env s).bind _ = _
  congr 1; funext xs s1
  exact grd_run
@[simp] theorem tupD_run : tupD l env s = (l env s).bind fun xs s1 => if xs.length ≤ sizeLine then .ok (.tup xs) s1 else .stk := by
  show (l env s).bind _ = _
  congr 1; funext xs s1
  exact grd_run
@[simp] theorem cal_run {sem : List D → M S D} {dv : List D} {n : Nat} : cal sem dv n l env s = (l env s).bind fun ds s1 => if ds.length + dv.length = n then sem (ds ++ dv) s1 else .stk := by
  show (l env s).bind _ = _
  congr 1; funext xs s1
  exact grd_run
@[simp] theorem mk_run {c : Str} {sem : List D → M S (List (Str × D))} {dv : List D} {n : Nat} : mk c sem dv n l env s = (l env s).bind fun ds s1 => if ds.length + dv.length = n then (sem (ds ++ dv) s1).bind fun fs s2 => .ok (.ins c fs) s2 else .stk := by
  show (l env s).bind _ = _
  congr 1; funext xs s1
  exact grd_run
@[simp] theorem bcl_run {f : List D → M S D} : bcl f l env s = (l env s).bind fun ds s1 => f ds s1 := rfl
@[simp] theorem isi_run {tb : Str → Option Bool} : isi tb τ env s = (τ env s).bind fun d s1 => isiD tb d s1 := rfl
@[simp] theorem iSq_run : iSq τ env s = (τ env s).bind fun d s1 => match d with
  | .lst ds => .ok ds s1
  | .tup ds => .ok ds s1
  | .scr ns => .ok (ns.map .int) s1
  | _ => .stk := by
  show (τ env s).bind _ = _
  congr 1; funext k s3
  cases k <;> rfl
@[simp] theorem iR1_run : iR1 l env s = (l env s).bind fun ds s1 => match ds with
  | [.int j] => if -(2 ^ 62) ≤ j ∧ j < 2 ^ 62 then .ok (rngD 0 j) s1 else .stk
  | _ => .stk := by
  show (l env s).bind _ = _
  congr 1; funext k s3
  match k with
  | [.int j] => exact grd_run
  | [] => rfl
  | [.non] => rfl
  | [.bl _] => rfl
  | [.str _] => rfl
  | [.lst _] => rfl
  | [.tup _] => rfl
  | [.dct _] => rfl
  | [.ins _ _] => rfl
  | [.exc _ _] => rfl
  | [.hnd _] => rfl
  | [.dks _] => rfl
  | [.fn _] => rfl
  | [.adr _ _] => rfl
  | [.rps _] => rfl
  | [.scr _] => rfl
  | .int _ :: _ :: _ => rfl
  | .non :: _ :: _ => rfl
  | .bl _ :: _ :: _ => rfl
  | .str _ :: _ :: _ => rfl
  | .lst _ :: _ :: _ => rfl
  | .tup _ :: _ :: _ => rfl
  | .dct _ :: _ :: _ => rfl
  | .ins _ _ :: _ :: _ => rfl
  | .exc _ _ :: _ :: _ => rfl
  | .hnd _ :: _ :: _ => rfl
  | .dks _ :: _ :: _ => rfl
  | .fn _ :: _ :: _ => rfl
  | .adr _ _ :: _ :: _ => rfl
  | .rps _ :: _ :: _ => rfl
  | .scr _ :: _ :: _ => rfl
@[simp] theorem iR2_run : iR2 l env s = (l env s).bind fun ds s1 => a2 (fun d e => onInt (fun i => onInt (fun j => grd (-(2 ^ 62) ≤ i ∧ i < 2 ^ 62 ∧ -(2 ^ 62) ≤ j ∧ j < 2 ^ 62) (pure (rngD i j))) e) d) ds s1 := rfl
@[simp] theorem sPar_run {i j : Nat} {x y : D} {s1 : S} (h : l env s = .ok [x, y] s1) : sPar i j l env s = .ok (.nx ((env.set i (some (.val x))).set j (some (.val y)))) s1 := by
  show (l env s).bind _ = _
  rw [h]; rfl
@[simp] theorem sFor_run {γ : D → Env → M S Env} : sFor l γ a env s = (l env s).bind fun ds s1 => forL γ a ds env s1 := rfl
@[simp] theorem cmp_run {own : List Nat} {γ : D → Env → M S Env} : cmp own l γ t τ env s = (l env s).bind fun xs s1 => if xs.length ≤ sizeLine then (calmM (cmpL γ t τ (wipeE env own) xs) s1).bind fun ys s2 => .ok (.lst ys) s2 else .stk := by
  show (l env s).bind _ = _
  congr 1; funext xs s1
  exact grd_run
@[simp] theorem tYs_run : (tYs : Env → M S Bool) env s = .ok true s := rfl
theorem calm_of {m : M S α} {x : α} {s1 : S} (h : m s = .ok x s1) : calmM m s = .ok x s1 := by unfold calmM; rw [h]
@[simp] theorem onInt_run {k : Int → M S α} {i : Int} : onInt k (.int i) s = k i s := rfl
@[simp] theorem onLst_run {k : List D → M S α} {i : List D} : onLst k (.lst i) s = k i s := rfl
@[simp] theorem onTup_run {k : List D → M S α} {i : List D} : onTup k (.tup i) s = k i s := rfl
@[simp] theorem onSeq_lst {k : List D → M S α} {i : List D} : onSeq k (.lst i) s = k i s := rfl
@[simp] theorem onSeq_tup {k : List D → M S α} {i : List D} : onSeq k (.tup i) s = k i s := rfl
@[simp] theorem onIns_run {k : Str → List (Str × D) → M S α} {c : Str} {fs : List (Str × D)} : onIns k (.ins c fs) s = k c fs s := rfl
@[simp] theorem onBl_run {k : Bool → M S α} {i : Bool} : onBl k (.bl i) s = k i s := rfl
@[simp] theorem a1_run {k : D → M S α} : a1 k [d] s = k d s := rfl
@[simp] theorem a2_run {k : D → D → M S α} : a2 k [d, e] s = k d e s := rfl
@[simp] theorem a3_run {k : D → D → D → M S α} {f : D} : a3 k [d, e, f] s = k d e f s := rfl
@[simp] theorem truD_bl {b : Bool} : (truD (.bl b) : M S Bool) s = .ok b s := rfl
@[simp] theorem truD_int {i : Int} : (truD (.int i) : M S Bool) s = .ok (i != 0) s := rfl
@[simp] theorem truD_non : (truD .non : M S Bool) s = .ok false s := rfl
@[simp] theorem intOp_run {C : Int → Int → Prop} [∀ i j, Decidable (C i j)] {g : Int → Int → D} {i j : Int} : (intOp C g (.int i) (.int j) : M S D) s = if C i j then .ok (g i j) s else .stk := by
  show grd _ _ s = _; exact grd_run
@[simp] theorem intOp0_run {g : Int → Int → D} {i j : Int} : (intOp0 g (.int i) (.int j) : M S D) s = .ok (g i j) s := rfl
@[simp] theorem addD_int {i j : Int} : (addD (.int i) (.int j) : M S D) s = .ok (.int (i + j)) s := rfl
@[simp] theorem addD_lst {x y : List D} : (addD (.lst x) (.lst y) : M S D) s = if x.length + y.length ≤ sizeLine then .ok (.lst (x ++ y)) s else .stk := by
  show grd _ _ s = _; exact grd_run
@[simp] theorem eqD_int {neg : Bool} {i j : Int} : (eqD neg (.int i) (.int j) : M S D) s = .ok (.bl (if neg then !(i == j) else (i == j))) s := rfl
@[simp] theorem eqD_bl {neg : Bool} {i j : Bool} : (eqD neg (.bl i) (.bl j) : M S D) s = .ok (.bl (if neg then !(i == j) else (i == j))) s := rfl
@[simp] theorem fldC_run {c f : Str} : fldC c f τ env s = (τ env s).bind fun d s1 => onIns (fun c' fs => grd (c' = c) (match fs.lookup f with
    | some d => pure d
    | none => stk)) d s1 := rfl
@[simp] theorem prp_run {c : Str} {sem : List D → M S D} : prp c sem τ env s = (τ env s).bind fun o s1 => onIns (fun c' _ => grd (c' = c) (calmM (sem [o]))) o s1 := rfl
@[simp] theorem lenSetD_run : lenSetD τ env s = (τ env s).bind fun d s1 => lenSetI d s1 := rfl
end
/-! ### where something is claimed -/
section
variable {S : Type} {α : Type} {s : S} {d : D} {ds : List D}
theorem grd_ne {p : Prop} [Decidable p] {m : M S α} (h : grd p m s ≠ .stk) : p ∧ m s ≠ .stk := by
  rw [grd_run] at h
  by_cases q : p
  · rw [if_pos q] at h; exact ⟨q, h⟩
  · rw [if_neg q] at h; exact absurd rfl h
theorem onInt_ne {k : Int → M S α} (h : onInt k d s ≠ .stk) : ∃ i, d = .int i ∧ k i s ≠ .stk := by
  cases d <;> first | exact ⟨_, rfl, h⟩ | exact absurd rfl h
theorem a1_ne {k : D → M S α} (h : a1 k ds s ≠ .stk) : ∃ d, ds = [d] ∧ k d s ≠ .stk := by
  match ds, h with
  | [d], h => exact ⟨d, rfl, h⟩
  | [], h => exact absurd rfl h
  | _ :: _ :: _, h => exact absurd rfl h
theorem a3_ne {k : D → D → D → M S α} (h : a3 k ds s ≠ .stk) : ∃ d e f, ds = [d, e, f] ∧ k d e f s ≠ .stk := by
  match ds, h with
  | [d, e, f], h => exact ⟨d, e, f, rfl, h⟩
  | [], h => exact absurd rfl h
  | [_], h => exact absurd rfl h
  | [_, _], h => exact absurd rfl h
  | _ :: _ :: _ :: _ :: _, h => exact absurd rfl h
/-- a list of ints; a list or tuple of ints -/
def onInts (k : List Int → M S α) : D → M S α := onLst fun ds => match intsD ds with
  | some ns => k ns
  | none => stk
def onIntsS (k : List Int → M S α) : D → M S α := onSeq fun ds => match intsD ds with
  | some ns => k ns
  | none => stk
theorem intsD_inv : ∀ {ds : List D} {ns : List Int}, intsD ds = some ns → ds = ns.map .int := fun {ds} => by
  induction ds with
  | nil => intro ns e; cases e; rfl
  | cons d ds ih =>
    intro ns e
    cases d with
    | int b =>
      have e : (intsD ds).map (b :: ·) = some ns := e
      obtain ⟨as, ea, rfl⟩ := Option.map_eq_some_iff.mp e
      rw [ih ea]; rfl
    | _ => cases (show (none : Option _) = some _ from e)
@[simp] theorem onInts_run {k : List Int → M S α} {ns : List Int} : onInts k (.lst (ns.map .int)) s = k ns s := by
  show (match intsD (ns.map .int) with
    | some ns => k ns
    | none => stk : M S α) s = _
  rw [intsD_of]
@[simp] theorem onIntsS_lst {k : List Int → M S α} {ns : List Int} : onIntsS k (.lst (ns.map .int)) s = k ns s := by
  show (match intsD (ns.map .int) with
    | some ns => k ns
    | none => stk : M S α) s = _
  rw [intsD_of]
@[simp] theorem onIntsS_tup {k : List Int → M S α} {ns : List Int} : onIntsS k (.tup (ns.map .int)) s = k ns s := by
  show (match intsD (ns.map .int) with
    | some ns => k ns
    | none => stk : M S α) s = _
  rw [intsD_of]
end
/-! ### comprehensions and loops that change nothing -/
section
variable {S : Type} {env : Env} {s : S} {t : Env → M S Bool} {e : Env → M S D} {i : Nat}
theorem cmpL_pure (p : D → Bool) (f : D → D) : ∀ {xs : List D}, (∀ x ∈ xs, t (env.set i (some (.val x))) s = .ok (p x) s) → (∀ x ∈ xs, p x = true → e (env.set i (some (.val x))) s = .ok (f x) s) →
    cmpL (gNm i) t e env xs s = .ok ((xs.filter p).map f) s
  | [], _, _ => rfl
  | x :: xs, ht, he => by
    have ih := cmpL_pure (xs := xs) p f (fun y hy => ht y (List.mem_cons_of_mem _ hy)) fun y hy => he y (List.mem_cons_of_mem _ hy)
    show (t (env.set i (some (.val x))) s).bind _ = _
    rw [ht x List.mem_cons_self]
    cases hp : p x with
    | true =>
      show (e (env.set i (some (.val x))) s).bind _ = _
      rw [he x List.mem_cons_self hp]
      show (cmpL (gNm i) t e env xs s).bind _ = _
      rw [ih, List.filter_cons_of_pos hp]
      rfl
    | false =>
      show cmpL (gNm i) t e env xs s = _
      rw [ih, List.filter_cons_of_neg (by rw [hp]; exact Bool.false_ne_true)]
theorem cmpL_map (f : D → D) {xs : List D} (he : ∀ x ∈ xs, e (env.set i (some (.val x))) s = .ok (f x) s) : cmpL (gNm i) tYs e env xs s = .ok (xs.map f) s := by
  rw [cmpL_pure (fun _ => true) f (fun _ _ => rfl) fun x hx _ => he x hx]
  rw [List.filter_eq_self.mpr (fun _ _ => rfl)]
end
end DL
set_option Elab.async false
set_option linter.all false
set_option maxRecDepth 100000
set_option maxHeartbeats 4000000
set_option autoImplicit false
/-! the mathematics of rhythms: sets of days that repeat, their least form -/
namespace Rh
open DL
abbrev has (p : Int) (rs : List Int) (d : Int) : Prop := d % p ∈ rs
/-- m is a period of A, both ways -/
def Per (A : Int → Prop) (m : Int) : Prop := ∀ d, A d ↔ A (d + m)
theorem Per.zero {A : Int → Prop} : Per A 0 := fun d => by rw [Int.add_zero]
theorem Per.add {A : Int → Prop} {a b : Int} (h : Per A a) (h' : Per A b) : Per A (a + b) := fun d => by
  rw [h d, h' (d + a), Int.add_assoc]
theorem Per.neg {A : Int → Prop} {a : Int} (h : Per A a) : Per A (-a) := fun d => by
  rw [h (d + -a)]
  rw [show d + -a + a = d by omega]
theorem Per.sub {A : Int → Prop} {a b : Int} (h : Per A a) (h' : Per A b) : Per A (a - b) := by
  rw [Int.sub_eq_add_neg]; exact h.add h'.neg
theorem Per.mulN {A : Int → Prop} {a : Int} (h : Per A a) : ∀ k : Nat, Per A (a * k)
  | 0 => by rw [Int.natCast_zero, Int.mul_zero]; exact Per.zero
  | k + 1 => by
    rw [Int.natCast_succ, Int.mul_add, Int.mul_one]
    exact (h.mulN k).add h
theorem Per.mul {A : Int → Prop} {a : Int} (h : Per A a) (k : Int) : Per A (a * k) := by
  rcases Int.le_total 0 k with hk | hk
  · have e : ((k.toNat : Nat) : Int) = k := Int.toNat_of_nonneg hk
    rw [← e]; exact h.mulN _
  · have e : ((((-k).toNat) : Nat) : Int) = -k := Int.toNat_of_nonneg (by omega)
    have := (h.mulN (-k).toNat).neg
    rw [e] at this
    rw [Int.mul_neg, Int.neg_neg] at this
    exact this
theorem Per.mod {A : Int → Prop} {a b : Int} (h : Per A a) (h' : Per A b) : Per A (a % b) := by
  rw [Int.emod_def]
  exact h.sub (h'.mul _)
theorem per_has (p : Int) (rs : List Int) : Per (has p rs) p := fun d => by
  show d % p ∈ rs ↔ (d + p) % p ∈ rs
  rw [Int.add_emod_right]
theorem Per.congr {A B : Int → Prop} {m : Int} (h : Per A m) (e : ∀ d, A d ↔ B d) : Per B m := fun d => by rw [← e, ← e]; exact h d
/-- rests of a round -/
structure Wf (n : Int) (rs : List Int) : Prop where
  pos : 1 ≤ n
  lt : ∀ r ∈ rs, 0 ≤ r ∧ r < n
  nd : rs.Nodup
def rep (n : Int) (rs : List Int) (q : Int) : Bool := rs.all fun r => decide ((r + q) % n ∈ rs)
def rngI (lo hi : Int) : List Int := (List.range (hi - lo).toNat).map fun (i : Nat) => lo + (i : Int)
theorem mem_rngI {lo hi x : Int} : x ∈ rngI lo hi ↔ lo ≤ x ∧ x < hi := by
  unfold rngI
  rw [List.mem_map]
  constructor
  · rintro ⟨i, hi', rfl⟩
    rw [List.mem_range] at hi'
    omega
  · rintro ⟨h1, h2⟩
    exact ⟨(x - lo).toNat, by rw [List.mem_range]; omega, by omega⟩
theorem rngI_sorted (lo hi : Int) : (rngI lo hi).Pairwise (· < ·) := by
  unfold rngI
  rw [List.pairwise_map]
  exact List.pairwise_lt_range.imp fun {a b} h => by omega
def parts (n : Int) (rs : List Int) : List Int := (rngI 1 (n + 1)).filter fun q => decide (n % q = 0) && rep n rs q
def leastP (n : Int) (rs : List Int) : Int := (parts n rs).headD 1
def formR (n : Int) (rs : List Int) : List Int := (srt rs).filter fun r => decide (r < leastP n rs)
theorem rep_iff {n : Int} {rs : List Int} {q : Int} : rep n rs q = true ↔ ∀ r ∈ rs, (r + q) % n ∈ rs := by
  unfold rep
  rw [List.all_eq_true]
  simp
theorem rep_self {n : Int} {rs : List Int} (w : Wf n rs) : rep n rs n = true := rep_iff.mpr fun r hr => by
  have := w.lt r hr
  rw [Int.add_emod_right, Int.emod_eq_of_lt this.1 this.2]; exact hr
theorem n_mem_parts {n : Int} {rs : List Int} (w : Wf n rs) : n ∈ parts n rs := by
  unfold parts
  rw [List.mem_filter]
  have := w.pos
  exact ⟨mem_rngI.mpr (by omega), by simp [rep_self w]⟩
theorem leastP_mem {n : Int} {rs : List Int} (w : Wf n rs) : leastP n rs ∈ parts n rs := by
  have := n_mem_parts w
  unfold leastP
  cases h : parts n rs with
  | nil => rw [h] at this; cases this
  | cons a l => simp
theorem leastP_le {n : Int} {rs : List Int} {q : Int} (h : q ∈ parts n rs) : leastP n rs ≤ q := by
  have hs : (parts n rs).Pairwise (· < ·) := (rngI_sorted _ _).filter _
  unfold leastP
  cases e : parts n rs with
  | nil => rw [e] at h; cases h
  | cons a l =>
    rw [e] at h hs
    simp only [List.headD_cons]
    rcases List.mem_cons.mp h with h | h
    · omega
    · exact Int.le_of_lt ((List.pairwise_cons.mp hs).1 q h)
theorem mem_parts {n : Int} {rs : List Int} {q : Int} : q ∈ parts n rs ↔ 1 ≤ q ∧ q ≤ n ∧ n % q = 0 ∧ ∀ r ∈ rs, (r + q) % n ∈ rs := by
  unfold parts
  rw [List.mem_filter, mem_rngI, Bool.and_eq_true, rep_iff]
  simp only [decide_eq_true_eq]
  constructor
  · rintro ⟨⟨h1, h2⟩, h3, h4⟩; exact ⟨h1, by omega, h3, h4⟩
  · rintro ⟨h1, h2, h3, h4⟩; exact ⟨⟨h1, by omega⟩, h3, h4⟩
/-- a divisor with which the rests repeat is a period -/
theorem per_of_part {n : Int} {rs : List Int} {q : Int} (h : q ∈ parts n rs) : Per (has n rs) q := by
  obtain ⟨h1, h2, h3, h4⟩ := mem_parts.mp h
  have up : ∀ d, has n rs d → has n rs (d + q) := fun d hd => by
    have := h4 _ hd
    show (d + q) % n ∈ rs
    rw [← Int.emod_add_emod]; exact this
  have ups : ∀ (k : Nat) d, has n rs d → has n rs (d + q * k) := fun k => by
    induction k with
    | zero => intro d hd; simpa using hd
    | succ k ih =>
      intro d hd
      have := up _ (ih d hd)
      rw [Int.natCast_succ, Int.mul_add, Int.mul_one, ← Int.add_assoc]; exact this
  intro d
  refine ⟨up d, fun hd => ?_⟩
  -- n = q * k, k ≥ 1: from d + q go on k - 1 times, to d + n
  obtain ⟨k, hk⟩ : ∃ k : Int, n = q * k := ⟨n / q, by have := Int.mul_ediv_add_emod n q; rw [h3] at this; omega⟩
  have hk1 : 1 ≤ k := by
    rcases Int.lt_or_le k 1 with hlt | hge
    · have : q * k ≤ q * 0 := Int.mul_le_mul_of_nonneg_left (by omega) (by omega)
      rw [Int.mul_zero] at this
      omega
    · exact hge
  have e : (((k - 1).toNat : Nat) : Int) = k - 1 := Int.toNat_of_nonneg (by omega)
  have := ups (k - 1).toNat (d + q) hd
  rw [e, Int.mul_sub, Int.mul_one, ← hk] at this
  have e2 : d + q + (n - q) = d + n := by omega
  rw [e2] at this
  exact (per_has n rs d).mpr this
theorem part_of_per {n : Int} {rs : List Int} (w : Wf n rs) {q : Int} (h1 : 1 ≤ q) (h2 : q ≤ n) (h3 : n % q = 0) (h : Per (has n rs) q) : q ∈ parts n rs :=
  mem_parts.mpr ⟨h1, h2, h3, fun r hr => by
    have e : r % n = r := Int.emod_eq_of_lt (w.lt r hr).1 (w.lt r hr).2
    exact (h r).mp (show r % n ∈ rs by rw [e]; exact hr)⟩
/-- it is the least period of all -/
theorem leastP_min {n : Int} {rs : List Int} (w : Wf n rs) : ∀ (k : Nat) (m : Int), m.toNat = k → 1 ≤ m → Per (has n rs) m → leastP n rs ≤ m := by
  intro k
  induction k using Nat.strongRecOn with
  | ind k ih =>
    intro m hm h1 h
    have hr0 : 0 ≤ n % m := Int.emod_nonneg _ (by omega)
    have hr1 : n % m < m := Int.emod_lt_of_pos _ (by omega)
    rcases Int.lt_or_eq_of_le hr0 with hr | hr
    · have := ih (n % m).toNat (by omega) (n % m) rfl (by omega) ((per_has n rs).mod h)
      omega
    · rcases Int.lt_or_le n m with hlt | hge
      · have hn := w.pos
        rw [Int.emod_eq_of_lt (by omega) hlt] at hr
        omega
      · exact leastP_le (part_of_per w h1 hge hr.symm h)
/-! ### least forms -/
structure Can (p : Int) (rs : List Int) : Prop where
  pos : 1 ≤ p
  lt : ∀ r ∈ rs, 0 ≤ r ∧ r < p
  asc : rs.Pairwise (· < ·)
  min : ∀ m, 1 ≤ m → Per (has p rs) m → p ≤ m
theorem Can.wf {p : Int} {rs : List Int} (c : Can p rs) : Wf p rs := ⟨c.pos, c.lt, c.asc.imp fun {a b} h => by omega⟩
theorem mem_srt {ns : List Int} {x : Int} : x ∈ srt ns ↔ x ∈ ns := (srt_perm ns).mem_iff
theorem srt_lt {ns : List Int} (h : ns.Nodup) : (srt ns).Pairwise (· < ·) := by
  have h1 := srt_sorted ns
  have h2 : (srt ns).Nodup := (srt_perm ns).nodup_iff.mpr h
  exact (List.Pairwise.and h1 h2).imp fun {a b} ⟨h, h'⟩ => by omega
/-- the form tells the same days -/
theorem form_has {n : Int} {rs : List Int} (w : Wf n rs) (d : Int) : has (leastP n rs) (formR n rs) d ↔ has n rs d := by
  obtain ⟨h1, h2, h3, h4⟩ := mem_parts.mp (leastP_mem w)
  have hp := per_of_part (leastP_mem w)
  have e : has n rs d ↔ has n rs (d % leastP n rs) := by
    have := (hp.mul (-(d / leastP n rs))) d
    rw [this]
    have e : d + leastP n rs * -(d / leastP n rs) = d % leastP n rs := by
      rw [Int.emod_def, Int.mul_neg]; omega
    rw [e]
  have g0 : 0 ≤ d % leastP n rs := Int.emod_nonneg _ (by omega)
  have g1 : d % leastP n rs < leastP n rs := Int.emod_lt_of_pos _ (by omega)
  rw [e]
  show d % leastP n rs ∈ formR n rs ↔ d % leastP n rs % n ∈ rs
  rw [Int.emod_eq_of_lt g0 (by omega)]
  unfold formR
  rw [List.mem_filter, mem_srt]
  simp [g1]
theorem form_can {n : Int} {rs : List Int} (w : Wf n rs) : Can (leastP n rs) (formR n rs) := by
  obtain ⟨h1, h2, h3, h4⟩ := mem_parts.mp (leastP_mem w)
  refine ⟨h1, fun r hr => ?_, (srt_lt w.nd).filter _, fun m hm h => ?_⟩
  · unfold formR at hr
    rw [List.mem_filter, mem_srt] at hr
    exact ⟨(w.lt r hr.1).1, by simpa using hr.2⟩
  · exact leastP_min w _ m rfl hm (h.congr fun d => form_has w d)
theorem sorted_ext : ∀ {xs ys : List Int}, xs.Pairwise (· < ·) → ys.Pairwise (· < ·) → (∀ x, x ∈ xs ↔ x ∈ ys) → xs = ys := fun {xs ys} h h' e => by
  have p : xs.Perm ys := (List.perm_ext_iff_of_nodup (h.imp fun {a b} h => by omega) (h'.imp fun {a b} h => by omega)).mpr e
  exact sorted_unique p (h.imp fun {a b} h => by omega) (h'.imp fun {a b} h => by omega)
/-- least forms of the same days are the same -/
theorem can_ext {p q : Int} {rs ts : List Int} (c : Can p rs) (c' : Can q ts) (e : ∀ d, has p rs d ↔ has q ts d) : p = q ∧ rs = ts := by
  have e1 : p = q := Int.le_antisymm (c.min q c'.pos ((per_has q ts).congr fun d => (e d).symm)) (c'.min p c.pos ((per_has p rs).congr e))
  subst e1
  refine ⟨rfl, sorted_ext c.asc c'.asc fun x => ?_⟩
  constructor
  · intro hx
    have := c.lt x hx
    have z := (e x).mp (show x % p ∈ rs by rw [Int.emod_eq_of_lt this.1 this.2]; exact hx)
    have z : x % p ∈ ts := z
    rw [Int.emod_eq_of_lt this.1 this.2] at z; exact z
  · intro hx
    have := c'.lt x hx
    have z := (e x).mpr (show x % p ∈ ts by rw [Int.emod_eq_of_lt this.1 this.2]; exact hx)
    have z : x % p ∈ rs := z
    rw [Int.emod_eq_of_lt this.1 this.2] at z; exact z
theorem form_le {n : Int} {rs : List Int} (w : Wf n rs) : leastP n rs ≤ n ∧ n % leastP n rs = 0 := by
  obtain ⟨h1, h2, h3, h4⟩ := mem_parts.mp (leastP_mem w)
  exact ⟨h2, h3⟩
/-- the least period divides each period -/
theorem can_dvd {p m : Int} {rs : List Int} (c : Can p rs) (h : Per (has p rs) m) : m % p = 0 := by
  have h0 : 0 ≤ m % p := Int.emod_nonneg _ (by have := c.pos; omega)
  have h1 : m % p < p := Int.emod_lt_of_pos _ (by have := c.pos; omega)
  rcases Int.lt_or_eq_of_le h0 with hr | hr
  · have := c.min (m % p) (by omega) (h.mod (per_has p rs))
    omega
  · exact hr.symm
end Rh
set_option Elab.async false
set_option linter.all false
set_option maxRecDepth 100000
set_option maxHeartbeats 4000000
set_option autoImplicit false
/-! what the defs of rhythms.py are worth, over data -/
namespace DL
open PySem PySem.Spec PyProof.Rows L2 Rh
/-- values that isinstance is asked of: the built-in ones, and objects of the classes cs -/
def okD (cs : List Str) : D → Bool
  | .non => true
  | .bl _ => true
  | .int _ => true
  | .str _ => true
  | .lst _ => true
  | .tup _ => true
  | .dct _ => true
  | .ins c _ => decide (c ∈ cs) && decide (c ∉ tyNames)
  | _ => false
def isNumD : D → Bool
  | .int _ => true
  | _ => false
def isSeqD : D → Bool
  | .lst _ => true
  | .tup _ => true
  | _ => false
def isRhD : D → Bool
  | .ins c _ => decide (c = "Rhythm")
  | _ => false
section
variable {S : Type}
def sem_is_number (cs : List Str) : List D → M S D := a1 fun d => grd (okD cs d = true) (pure (.bl (isNumD d)))
def sem_is_list (cs : List Str) : List D → M S D := a1 fun d => grd (okD cs d = true) (pure (.bl (isSeqD d)))
def numIn (lo hi : Int) : D → Bool
  | .int i => decide (lo ≤ i) && decide (i ≤ hi)
  | _ => false
def diffs (lo hi : Int) (ds : List D) : Bool := ds.all (numIn lo hi) && (match intsD ds with
  | some ns => decide ns.Nodup
  | none => false)
def diffM (cs : List Str) (lo hi : Int) : D → M S D
  | .lst ds => grd (ds.length ≤ 4000 ∧ ds.all (okD cs) = true) (pure (.bl (diffs lo hi ds)))
  | .tup ds => grd (ds.length ≤ 4000 ∧ ds.all (okD cs) = true) (pure (.bl (diffs lo hi ds)))
  | d => grd (okD cs d = true) (pure (.bl false))
def sem_are_different (cs : List Str) : List D → M S D := a3 fun d l h => onInt (fun lo => onInt (fun hi => diffM cs lo hi d) h) l
def lcmI (i j : Int) : Int := i / (Int.gcd i j : Int) * j
def wfB (n : Int) (rs : List Int) : Bool := decide (1 ≤ n) && (rs.all (fun r => decide (0 ≤ r) && decide (r < n)) && decide rs.Nodup)
theorem wfB_iff {n : Int} {rs : List Int} : wfB n rs = true ↔ Wf n rs := by
  unfold wfB
  simp only [Bool.and_eq_true, decide_eq_true_eq, List.all_eq_true]
  exact ⟨fun ⟨a, b, c⟩ => ⟨a, b, c⟩, fun w => ⟨w.pos, w.lt, w.nd⟩⟩
def formD (n : Int) (rs : List Int) : D := .tup [.int (leastP n rs), .tup ((formR n rs).map .int)]
def sem_Rhythm___init__ (cs : List Str) : List D → M S (List (Str × D)) := a2 fun a b => onInt (fun n => onIntsS (fun rs => grd (wfB n rs = true ∧ n ≤ 3000 ∧ rs.length ≤ 3000) (pure [("own_form", formD n rs)])) b) a
/-- a rhythm -/
def rhD (p : Int) (rs : List Int) : D := .ins "Rhythm" [("own_form", .tup [.int p, .tup (rs.map .int)])]
def rhO : D → Option (Int × List Int)
  | .ins c [(f, .tup [.int p, .tup ds])] => if c = "Rhythm" ∧ f = "own_form" then (intsD ds).map fun rs => (p, rs) else none
  | _ => none
theorem rhO_rhD (p : Int) (rs : List Int) : rhO (rhD p rs) = some (p, rs) := by
  show (if ("Rhythm" : Str) = "Rhythm" ∧ ("own_form" : Str) = "own_form" then (intsD (rs.map .int)).map fun rs => (p, rs) else none) = _
  rw [if_pos ⟨rfl, rfl⟩, intsD_of]; rfl
def onRh {α : Type} (k : Int → List Int → M S α) (d : D) : M S α := match rhO d with
  | some (p, rs) => k p rs
  | none => stk
@[simp] theorem onRh_run {α : Type} {k : Int → List Int → M S α} {p : Int} {rs : List Int} {s : S} : onRh k (rhD p rs) s = k p rs s := by
  unfold onRh; rw [rhO_rhD]
def sem_Rhythm___eq__ (cs : List Str) : List D → M S D := a2 fun d e => onRh (fun p rs => grd (okD cs e = true) (if isRhD e = true then onRh (fun q ts => pure (.bl (decide (p = q ∧ rs = ts)))) e else pure (.bl false))) d
def mkR (n : Int) (rs : List Int) : D := rhD (leastP n rs) (formR n rs)
/-- a round and rests as they may be -/
def okR (cs : List Str) (p : Int) : Prop := 1 ≤ p ∧ p ≤ 3000 ∧ ("Rhythm" : Str) ∈ cs
instance (cs : List Str) (p : Int) : Decidable (okR cs p) := by unfold okR; exact inferInstance
def semOp (cs : List Str) (f : Bool → Bool → Bool) : List D → M S D := a2 fun d e => onRh (fun p rs => onRh (fun q ts => grd (okR cs p ∧ okR cs q ∧ lcmI p q ≤ 3000) (pure (mkR (lcmI p q) ((rngI 0 (lcmI p q)).filter fun x => f (decide (x % p ∈ rs)) (decide (x % q ∈ ts)))))) e) d
def sem_Rhythm___or__ (cs : List Str) : List D → M S D := semOp cs fun a b => a || b
def sem_Rhythm___and__ (cs : List Str) : List D → M S D := semOp cs fun a b => a && b
def sem_Rhythm___sub__ (cs : List Str) : List D → M S D := semOp cs fun a b => a && !b
end
end DL
set_option Elab.async false
set_option linter.all false
set_option maxRecDepth 100000
set_option maxHeartbeats 4000000
set_option autoImplicit false
/-! printed by tools/gen05.py: the readings of rhythms.py -/
namespace DL
open PySem PySem.Spec PyProof.Rows L2 Rh
abbrev N_is_number : List Str := ["thing"]
def rd_is_number {S : Type} (cs : List Str) : Env → M S Flw :=
  (sRet (andV (isi (tb_kit_ty_int cs) (rVar 0)) (notV (isi (tb_kit_ty_bool cs) (rVar 0)))))
abbrev N_is_list : List Str := ["thing"]
def rd_is_list {S : Type} (cs : List Str) : Env → M S Flw :=
  (sRet (isi (tb_kit_two_list_tuple cs) (rVar 0)))
abbrev N_are_different : List Str := ["thing", "least", "most", "item"]
def rd_are_different {S : Type} (cs : List Str) : Env → M S Flw :=
  (sSeq (sIf (orT (notT (asT (cal (sem_is_list cs) [] 1 (aCons (rVar 0) aNil)))) (notT (asT (bcl (allD false) (aCons (cmp [3] (iSq (rVar 0)) (gNm 3) tYs (andV (cal (sem_is_number cs) [] 1 (aCons (rVar 3) aNil)) (chn leD leD (rVar 1) (rVar 3) (rVar 2)))) aNil))))) (sRet (rC (.bl false))) sNx) (sRet (bin (eqD false) (lenSetD (bcl listD (aCons (rVar 0) aNil))) (bcl lenD (aCons (rVar 0) aNil)))))
end DL
set_option Elab.async false
set_option linter.all false
set_option maxRecDepth 100000
set_option maxHeartbeats 4000000
set_option autoImplicit false
/-! the readings of rhythms.py are worth what RhSem says -/
namespace DL
open PySem PySem.Spec PyProof.Rows L2 Rh
section
variable {S : Type}
theorem tbOf_t {tr fa : List Str} {t : Str} (h : t ∈ tr) : tbOf tr fa t = some true := if_pos h
theorem tbOf_f {tr fa : List Str} {t : Str} (h : t ∉ tr) (h' : t ∈ fa) : tbOf tr fa t = some false := by
  unfold tbOf; rw [if_neg h, if_pos h']
theorem isiD_of {tb : Str → Option Bool} {d : D} {t : Str} {b : Bool} {s : S} (h : tagD d = some t) (h' : tb t = some b) : (isiD tb d : M S D) s = .ok (.bl b) s := by
  unfold isiD; rw [h]; show (match tb t with | some b => pure (.bl b) | none => stk : M S D) s = _; rw [h']; rfl
theorem tag_ins {cs : List Str} {c : Str} {fs : List (Str × D)} (h : okD cs (.ins c fs) = true) : tagD (.ins c fs) = some c ∧ c ∈ cs ∧ c ∉ tyNames := by
  have h : (decide (c ∈ cs) && decide (c ∉ tyNames)) = true := h
  simp only [Bool.and_eq_true, decide_eq_true_eq] at h
  exact ⟨if_neg h.2, h.1, h.2⟩
theorem isi_int {cs : List Str} {d : D} {s : S} (h : okD cs d = true) : (isiD (tb_kit_ty_int cs) d : M S D) s = .ok (.bl (match d with | .int _ => true | .bl _ => true | _ => false)) s := by
  cases d with
  | ins c fs =>
    obtain ⟨h1, h2, h3⟩ := tag_ins h
    refine isiD_of h1 (tbOf_f (fun z => h3 ?_) (List.mem_append_right _ h2))
    revert z; simp [tyNames]; intro z; rcases z with z | z <;> simp [z]
  | exc _ _ => cases h
  | hnd _ => cases h
  | dks _ => cases h
  | fn _ => cases h
  | adr _ _ => cases h
  | rps _ => cases h
  | scr _ => cases h
  | non => exact isiD_of rfl (tbOf_f (by decide +kernel) (List.mem_append_left _ (by decide +kernel)))
  | bl _ => exact isiD_of rfl (tbOf_t (by decide +kernel))
  | int _ => exact isiD_of rfl (tbOf_t (by decide +kernel))
  | str _ => exact isiD_of rfl (tbOf_f (by decide +kernel) (List.mem_append_left _ (by decide +kernel)))
  | lst _ => exact isiD_of rfl (tbOf_f (by decide +kernel) (List.mem_append_left _ (by decide +kernel)))
  | tup _ => exact isiD_of rfl (tbOf_f (by decide +kernel) (List.mem_append_left _ (by decide +kernel)))
  | dct _ => exact isiD_of rfl (tbOf_f (by decide +kernel) (List.mem_append_left _ (by decide +kernel)))
theorem isi_bool {cs : List Str} {d : D} {s : S} (h : okD cs d = true) : (isiD (tb_kit_ty_bool cs) d : M S D) s = .ok (.bl (match d with | .bl _ => true | _ => false)) s := by
  cases d with
  | ins c fs =>
    obtain ⟨h1, h2, h3⟩ := tag_ins h
    refine isiD_of h1 (tbOf_f (fun z => h3 ?_) (List.mem_append_right _ h2))
    revert z; simp [tyNames]; intro z; simp [z]
  | exc _ _ => cases h
  | hnd _ => cases h
  | dks _ => cases h
  | fn _ => cases h
  | adr _ _ => cases h
  | rps _ => cases h
  | scr _ => cases h
  | bl _ => exact isiD_of rfl (tbOf_t (by decide +kernel))
  | non => exact isiD_of rfl (tbOf_f (by decide +kernel) (List.mem_append_left _ (by decide +kernel)))
  | int _ => exact isiD_of rfl (tbOf_f (by decide +kernel) (List.mem_append_left _ (by decide +kernel)))
  | str _ => exact isiD_of rfl (tbOf_f (by decide +kernel) (List.mem_append_left _ (by decide +kernel)))
  | lst _ => exact isiD_of rfl (tbOf_f (by decide +kernel) (List.mem_append_left _ (by decide +kernel)))
  | tup _ => exact isiD_of rfl (tbOf_f (by decide +kernel) (List.mem_append_left _ (by decide +kernel)))
  | dct _ => exact isiD_of rfl (tbOf_f (by decide +kernel) (List.mem_append_left _ (by decide +kernel)))
theorem isi_seq {cs : List Str} {d : D} {s : S} (h : okD cs d = true) : (isiD (tb_kit_two_list_tuple cs) d : M S D) s = .ok (.bl (isSeqD d)) s := by
  cases d with
  | ins c fs =>
    obtain ⟨h1, h2, h3⟩ := tag_ins h
    refine isiD_of h1 (tbOf_f (fun z => h3 ?_) (List.mem_append_right _ h2))
    revert z; simp [tyNames]; intro z; rcases z with z | z <;> simp [z]
  | exc _ _ => cases h
  | hnd _ => cases h
  | dks _ => cases h
  | fn _ => cases h
  | adr _ _ => cases h
  | rps _ => cases h
  | scr _ => cases h
  | lst _ => exact isiD_of rfl (tbOf_t (by decide +kernel))
  | tup _ => exact isiD_of rfl (tbOf_t (by decide +kernel))
  | bl _ => exact isiD_of rfl (tbOf_f (by decide +kernel) (List.mem_append_left _ (by decide +kernel)))
  | non => exact isiD_of rfl (tbOf_f (by decide +kernel) (List.mem_append_left _ (by decide +kernel)))
  | int _ => exact isiD_of rfl (tbOf_f (by decide +kernel) (List.mem_append_left _ (by decide +kernel)))
  | str _ => exact isiD_of rfl (tbOf_f (by decide +kernel) (List.mem_append_left _ (by decide +kernel)))
  | dct _ => exact isiD_of rfl (tbOf_f (by decide +kernel) (List.mem_append_left _ (by decide +kernel)))
theorem sem_num {cs : List Str} {d : D} {s : S} (h : okD cs d = true) : (sem_is_number cs [d] : M S D) s = .ok (.bl (isNumD d)) s := by
  show grd _ _ s = _; rw [grd_run, if_pos h]; rfl
theorem sem_isl {cs : List Str} {d : D} {s : S} (h : okD cs d = true) : (sem_is_list cs [d] : M S D) s = .ok (.bl (isSeqD d)) s := by
  show grd _ _ s = _; rw [grd_run, if_pos h]; rfl
theorem rfn_is_number {cs : List Str} : Rfn (S := S) (sem_is_number cs) (runB (rd_is_number cs) N_is_number) := fun ds s h => by
  obtain ⟨d, rfl, h1⟩ := a1_ne h
  obtain ⟨hd, _⟩ := grd_ne h1
  rw [sem_num hd]
  unfold runB rd_is_number
  rw [show startE N_is_number [d] = [some (.val d)] from rfl]
  simp only [sRet_run, andV_run, isi_run, notV_run, rVar_zero, Res.bind_ok, isi_int hd, isi_bool hd, truD_bl]
  cases d <;> simp [isNumD]
theorem rfn_is_list {cs : List Str} : Rfn (S := S) (sem_is_list cs) (runB (rd_is_list cs) N_is_list) := fun ds s h => by
  obtain ⟨d, rfl, h1⟩ := a1_ne h
  obtain ⟨hd, _⟩ := grd_ne h1
  rw [sem_isl hd]
  unfold runB rd_is_list
  rw [show startE N_is_list [d] = [some (.val d)] from rfl]
  simp only [sRet_run, isi_run, rVar_zero, Res.bind_ok, isi_seq hd]
/-! ### are_different -/
theorem dedup_len : ∀ (ns acc : List Int), (ns.foldl step_dedup acc).length ≤ acc.length + ns.length ∧ ((ns.foldl step_dedup acc).length = acc.length + ns.length ↔ ns.Nodup ∧ ∀ x ∈ ns, x ∉ acc)
  | [], acc => ⟨Nat.le_refl _, by simp⟩
  | n :: ns, acc => by
    rw [List.foldl_cons]
    rw [show step_dedup acc n = if acc.any (· == n) then acc else acc ++ [n] from rfl]
    by_cases h : (acc.any (· == n)) = true
    · rw [if_pos h]
      have ih := dedup_len ns acc
      have hm : n ∈ acc := by
        obtain ⟨x, hx, e⟩ := List.any_eq_true.mp h
        rw [← eq_of_beq e]; exact hx
      refine ⟨by rw [List.length_cons]; have := ih.1; omega, fun e => ?_, fun ⟨_, z⟩ => absurd hm (z n List.mem_cons_self)⟩
      have := ih.1
      rw [List.length_cons] at e
      omega
    · rw [if_neg h]
      have ih := dedup_len ns (acc ++ [n])
      have hm : n ∉ acc := fun z => h (List.any_eq_true.mpr ⟨n, z, beq_self_eq_true n⟩)
      rw [List.length_append, List.length_singleton] at ih
      refine ⟨by rw [List.length_cons]; have := ih.1; omega, fun e => ?_, fun ⟨z1, z2⟩ => ?_⟩
      · rw [List.length_cons] at e
        obtain ⟨h1, h2⟩ := ih.2.mp (by omega)
        refine ⟨List.nodup_cons.mpr ⟨fun z => h2 n z (by simp), h1⟩, fun x hx => ?_⟩
        rcases List.mem_cons.mp hx with e | hx
        · subst e; exact hm
        · exact fun z => h2 x hx (List.mem_append_left _ z)
      · obtain ⟨z3, z4⟩ := List.nodup_cons.mp z1
        rw [List.length_cons]
        have := ih.2.mpr ⟨z4, fun x hx z => by
          rcases List.mem_append.mp z with z | z
          · exact z2 x (List.mem_cons_of_mem _ hx) z
          · rw [List.mem_singleton.mp z] at hx; exact z3 hx⟩
        omega
theorem dedup_iff (ns : List Int) : ((dedup ns).length : Int) = (ns.length : Int) ↔ ns.Nodup := by
  have := (dedup_len ns []).2
  unfold dedup
  simp only [List.length_nil, Nat.zero_add] at this
  rw [Int.natCast_inj, this]
  simp
theorem numIn_ints {lo hi : Int} : ∀ {ds : List D}, ds.all (numIn lo hi) = true → ∃ ns, intsD ds = some ns ∧ ∀ n ∈ ns, lo ≤ n ∧ n ≤ hi := fun {ds} => by
  induction ds with
  | nil => intro _; exact ⟨[], rfl, by simp⟩
  | cons d ds ih =>
    intro h
    rw [List.all_cons, Bool.and_eq_true] at h
    obtain ⟨ns, e, hn⟩ := ih h.2
    cases d with
    | int i =>
      have h1 : (decide (lo ≤ i) && decide (i ≤ hi)) = true := h.1
      simp only [Bool.and_eq_true, decide_eq_true_eq] at h1
      refine ⟨i :: ns, by show (intsD ds).map (i :: ·) = _; rw [e]; rfl, fun n hn' => ?_⟩
      rcases List.mem_cons.mp hn' with z | z
      · subst z; exact h1
      · exact hn n z
    | _ => cases (show false = true from h.1)
theorem intsD_length {ds : List D} {ns : List Int} (h : intsD ds = some ns) : ds.length = ns.length := by rw [intsD_inv h, List.length_map]
/-- the test of each item -/
theorem diff_item {cs : List Str} {th x : D} {lo hi : Int} {s : S} (h : okD cs x = true) :
    andV (cal (sem_is_number cs) [] 1 (aCons (rVar 3) aNil)) (chn leD leD (rVar 1) (rVar 3) (rVar 2)) ([some (.val th), some (.val (.int lo)), some (.val (.int hi)), some (.val x)] : Env) s = .ok (.bl (numIn lo hi x)) s := by
  simp only [andV_run, cal_run, aCons_run, aNil_run, rVar_zero, rVar_succ, Res.bind_ok]
  simp only [List.length_cons, List.length_nil, List.append_nil, sem_num h, Res.bind_ok, truD_bl, if_true, Nat.zero_add, Nat.add_zero, chn_run, rVar_zero, rVar_succ]
  cases x with
  | int i =>
    simp only [isNumD, if_true, intOp0_run, Res.bind_ok]
    by_cases hl : lo ≤ i
    · simp [numIn, hl]
    · simp [numIn, hl]
  | _ => simp [isNumD, numIn]
theorem diff_comp {cs : List Str} {th : D} {lo hi : Int} {s : S} {ds : List D} (h : ds.all (okD cs) = true) :
    cmpL (gNm 3) tYs (andV (cal (sem_is_number cs) [] 1 (aCons (rVar 3) aNil)) (chn leD leD (rVar 1) (rVar 3) (rVar 2))) ([some (.val th), some (.val (.int lo)), some (.val (.int hi)), none] : Env) ds s = .ok (ds.map fun x => .bl (numIn lo hi x)) s :=
  cmpL_map _ fun x hx => diff_item (List.all_eq_true.mp h x hx)
theorem diff_run {cs : List Str} {th : D} {lo hi : Int} {s : S} {ds : List D} (hth : th = .lst ds ∨ th = .tup ds) (hl : ds.length ≤ 4000) (h : ds.all (okD cs) = true) : runB (rd_are_different cs) N_are_different [th, .int lo, .int hi] s = .ok (.bl (diffs lo hi ds)) s := by
  have hsz : ds.length ≤ sizeLine := Nat.le_trans hl (by decide)
  unfold runB rd_are_different
  rw [show startE N_are_different [th, .int lo, .int hi] = [some (.val th), some (.val (.int lo)), some (.val (.int hi)), none] from rfl]
  have e0 : (rVar 0 : Env → M S D) [some (.val th), some (.val (.int lo)), some (.val (.int hi)), none] s = .ok th s := rVar_run rfl
  have okt : okD cs th = true := by rcases hth with rfl | rfl <;> rfl
  have ist : isSeqD th = true := by rcases hth with rfl | rfl <;> rfl
  have eit : (iSq (rVar 0) : Env → M S (List D)) [some (.val th), some (.val (.int lo)), some (.val (.int hi)), none] s = .ok ds s := by
    rw [iSq_run, e0]
    rcases hth with rfl | rfl <;> rfl
  have elst : (bcl listD (aCons (rVar 0) aNil) : Env → M S D) [some (.val th), some (.val (.int lo)), some (.val (.int hi)), none] s = .ok (.lst ds) s := by
    simp only [bcl_run, aCons_run, aNil_run, e0, Res.bind_ok]
    rcases hth with rfl | rfl <;> rfl
  have elen : (bcl lenD (aCons (rVar 0) aNil) : Env → M S D) [some (.val th), some (.val (.int lo)), some (.val (.int hi)), none] s = .ok (.int ds.length) s := by
    simp only [bcl_run, aCons_run, aNil_run, e0, Res.bind_ok]
    rcases hth with rfl | rfl <;> rfl
  have ec : wipeE ([some (.val th), some (.val (.int lo)), some (.val (.int hi)), none] : Env) [3] = [some (.val th), some (.val (.int lo)), some (.val (.int hi)), none] := rfl
  have eall : (allD false [.lst (ds.map fun x => .bl (numIn lo hi x))] : M S D) s = .ok (.bl (ds.all (numIn lo hi))) s := by
    have eb : blsD (ds.map fun x => D.bl (numIn lo hi x)) = some (ds.map (numIn lo hi)) := by
      rw [← blsD_of, List.map_map]; rfl
    show (match blsD (ds.map fun x => D.bl (numIn lo hi x)) with
      | some bs => pure (.bl (if false then bs.any id else bs.all id))
      | none => stk : M S D) s = _
    rw [eb]
    show Res.ok (D.bl ((ds.map (numIn lo hi)).all id)) s = _
    rw [List.all_map]; rfl
  simp only [sSeq_run, sIf_run, orT_run, notT_run, asT_run, cal_run, aCons_run, aNil_run, e0, Res.bind_ok, List.length_cons, List.length_nil, Nat.zero_add, Nat.add_zero, if_true, List.append_nil, sem_isl okt, ist, Bool.not_true, Bool.false_eq_true, if_false,
    bcl_run (f := allD false), cmp_run, eit, hsz, ec, calm_of (diff_comp (th := th) (lo := lo) (hi := hi) (s := s) h), eall]
  cases ha : ds.all (numIn lo hi) with
  | false => simp [diffs, ha]
  | true =>
    obtain ⟨ns, en, hn⟩ := numIn_ints ha
    have hnl : ns.length ≤ 4000 := by rw [← intsD_length en]; exact hl
    have els : (lenSetI (.lst ds) : M S D) s = .ok (.int (dedup ns).length) s := by
      show (match intsD ds with
        | some ns => grd (ns.length ≤ 4000) (pure (.int (dedup ns).length))
        | none => stk : M S D) s = _
      rw [en]
      show grd _ _ s = _
      rw [grd_run, if_pos hnl]; rfl
    simp only [Bool.not_true, Bool.false_eq_true, if_false, sNx_run, Res.bind_ok, sRet_run, bin_run, lenSetD_run, elst, elen, els, eqD_int]
    have : ((dedup ns).length : Int) = (ds.length : Int) ↔ ns.Nodup := by rw [intsD_length en]; exact dedup_iff ns
    simp only [diffs, ha, en, Bool.true_and]
    congr 2
    by_cases hnd : ns.Nodup
    · simp [this.mpr hnd, hnd]
    · simp only [hnd, decide_false]
      exact beq_eq_false_iff_ne.mpr fun z => hnd (this.mp z)
theorem rfn_are_different {cs : List Str} : Rfn (S := S) (sem_are_different cs) (runB (rd_are_different cs) N_are_different) := fun ds s h => by
  have other : ∀ (d : D) (lo hi : Int), isSeqD d = false → okD cs d = true → runB (rd_are_different cs) N_are_different [d, .int lo, .int hi] s = .ok (.bl false) s := fun d lo hi hq ok => by
    unfold runB rd_are_different
    rw [show startE N_are_different [d, .int lo, .int hi] = [some (.val d), some (.val (.int lo)), some (.val (.int hi)), none] from rfl]
    simp only [sSeq_run, sIf_run, orT_run, notT_run, asT_run, cal_run, aCons_run, aNil_run, rVar_zero, rVar_succ, Res.bind_ok, List.length_cons, List.length_nil, Nat.zero_add, Nat.add_zero, if_true, List.append_nil, sem_isl ok, hq, Bool.not_false, sRet_run, rC_run]
  obtain ⟨d, e, f, rfl, h1⟩ := a3_ne h
  obtain ⟨lo, rfl, h2⟩ := onInt_ne h1
  obtain ⟨hi, rfl, h3⟩ := onInt_ne h2
  show _ = diffM cs lo hi d s
  cases d with
  | lst ds =>
    obtain ⟨hc, _⟩ := grd_ne h3
    rw [diff_run (.inl rfl) hc.1 hc.2]
    show _ = grd _ _ s
    rw [grd_run, if_pos hc]; rfl
  | tup ds =>
    obtain ⟨hc, _⟩ := grd_ne h3
    rw [diff_run (.inr rfl) hc.1 hc.2]
    show _ = grd _ _ s
    rw [grd_run, if_pos hc]; rfl
  | non => exact other _ _ _ rfl rfl
  | bl _ => exact other _ _ _ rfl rfl
  | int _ => exact other _ _ _ rfl rfl
  | str _ => exact other _ _ _ rfl rfl
  | dct _ => exact other _ _ _ rfl rfl
  | ins c fs =>
    obtain ⟨hc, _⟩ := grd_ne h3
    rw [other _ _ _ rfl hc]
    show _ = grd _ _ s
    rw [grd_run, if_pos hc]; rfl
  | exc _ _ => exact absurd (grd_ne h3).1 Bool.false_ne_true
  | hnd _ => exact absurd (grd_ne h3).1 Bool.false_ne_true
  | dks _ => exact absurd (grd_ne h3).1 Bool.false_ne_true
  | fn _ => exact absurd (grd_ne h3).1 Bool.false_ne_true
  | adr _ _ => exact absurd (grd_ne h3).1 Bool.false_ne_true
  | rps _ => exact absurd (grd_ne h3).1 Bool.false_ne_true
  | scr _ => exact absurd (grd_ne h3).1 Bool.false_ne_true
end
end DL
set_option Elab.async false
set_option linter.all false
set_option maxRecDepth 100000
set_option maxHeartbeats 4000000
set_option autoImplicit false
namespace DL
open PySem PySem.Spec PyProof.Rows L2 Rh
section
variable {S : Type}
/-! ### common -/
/-! ### repeats, least_form -/
/-- a comprehension over ints -/
theorem cmpL_ints {env : Env} {s : S} {t : Env → M S Bool} {e : Env → M S D} {i : Nat} (p : Int → Bool) (f : Int → D) {ns : List Int} (ht : ∀ n ∈ ns, t (env.set i (some (.val (.int n)))) s = .ok (p n) s) (he : ∀ n ∈ ns, p n = true → e (env.set i (some (.val (.int n)))) s = .ok (f n) s) :
    cmpL (gNm i) t e env (ns.map .int) s = .ok ((ns.filter p).map f) s := by
  induction ns with
  | nil => rfl
  | cons x xs ih =>
    have ih := ih (fun y hy => ht y (List.mem_cons_of_mem _ hy)) fun y hy => he y (List.mem_cons_of_mem _ hy)
    show (t (env.set i (some (.val (.int x)))) s).bind _ = _
    rw [ht x List.mem_cons_self]
    cases hp : p x with
    | true =>
      show (e (env.set i (some (.val (.int x)))) s).bind _ = _
      rw [he x List.mem_cons_self hp]
      show (cmpL (gNm i) t e env (xs.map .int) s).bind _ = _
      rw [ih, List.filter_cons_of_pos hp]
      rfl
    | false =>
      show cmpL (gNm i) t e env (xs.map .int) s = _
      rw [ih, List.filter_cons_of_neg (by rw [hp]; exact Bool.false_ne_true)]
theorem cmpL_intsM {env : Env} {s : S} {e : Env → M S D} {i : Nat} (f : Int → D) {ns : List Int} (he : ∀ n ∈ ns, e (env.set i (some (.val (.int n)))) s = .ok (f n) s) :
    cmpL (gNm i) tYs e env (ns.map .int) s = .ok (ns.map f) s := by
  rw [cmpL_ints (fun _ => true) f (fun _ _ => rfl) fun n hn _ => he n hn, List.filter_eq_self.mpr (fun _ _ => rfl)]
theorem rngD_eq (lo hi : Int) : rngD lo hi = (rngI lo hi).map .int := by
  unfold rngD rngI
  rw [List.map_map]; rfl
theorem rngI_length (lo hi : Int) : (rngI lo hi).length = (hi - lo).toNat := by unfold rngI; rw [List.length_map, List.length_range]
theorem sz3 {n : Nat} (h : n ≤ 3000) : n ≤ sizeLine := Nat.le_trans h (by decide)
end
end DL
set_option Elab.async false
set_option linter.all false
set_option maxRecDepth 100000
set_option maxHeartbeats 4000000
set_option autoImplicit false
/-! printed by tools/mklw.py: the drawing helpers of the laws -/
namespace DL
open PySem PySem.Spec PyProof.Rows L2
abbrev N__law_mixed : List Str := ["_law_draw", "_law_turn", "_law_found", "_law_prime", "_law_blend", "_law_cell"]
def rd__law_mixed (cells : List Int) : Env → M DrS Flw :=
  (sSeq (sAsg (bin addD (drwGet (fun s => .int s.turn) (rVar 0)) (rC (.int 1))) (gNm 1)) (sSeq (drwSet (fun i s => { s with turn := i }) (rVar 1) (rVar 0)) (sSeq (sAsg (rC (.int 0)) (gNm 2)) (sSeq (sFor (iSq (lstD (aCons (rC (.int 2147483629)) (aCons (rC (.int 2147483587)) (aCons (rC (.int 2147483579)) (aCons (rC (.int 2147483563)) aNil)))))) (gNm 3) (sSeq (sAsg (bin modD (bcl int1D (aCons (bin addD (bin mulD (rVar 1) (rC (.int 69621))) (bin divD (rVar 3) (rC (.int 7)))) aNil)) (rVar 3)) (gNm 4)) (sSeq (sFor (iCl cells (drwGet (fun _ => .hnd 2) (rVar 0))) (gNm 5) (sAsg (bin modD (bcl int1D (aCons (bin addD (bin mulD (rVar 4) (rC (.int 48271))) (rVar 5)) aNil)) (rVar 3)) (gNm 4))) (sAsg (bin addD (bin mulD (rVar 2) (rC (.int 2147483647))) (bin modD (bcl int1D (aCons (bin powD (rVar 4) (rC (.int 5))) aNil)) (rVar 3))) (gNm 2))))) (sRet (rVar 2))))))
def sem__law_mixed (cells : List Int) : List D → M DrS D := runB (rd__law_mixed cells) N__law_mixed
abbrev N__law_take : List Str := ["_law_draw", "_law_many", "_law_found"]
def rd__law_take (cells : List Int) : Env → M DrS Flw :=
  (sSeq (sIf (andT (asT (bin (eqD false) (drwGet (fun s => .int s.left) (rVar 0)) (rC (.int 0)))) (neW (drwGet (fun _ => .hnd 1) (rVar 0)))) (drwSet (fun i s => { s with left := i }) (popW (drwGet (fun _ => .hnd 1) (rVar 0))) (rVar 0)) sNx) (sSeq (sIf (asT (bin (eqD false) (drwGet (fun s => .int s.left) (rVar 0)) (rC (.int 0)))) (drwSet (fun i s => { s with left := i }) (cal (sem__law_mixed cells) [] 1 (aCons (rVar 0) aNil)) (rVar 0)) sNx) (sSeq (sAsg (bin modD (bcl int1D (aCons (drwGet (fun s => .int s.left) (rVar 0)) aNil)) (rVar 1)) (gNm 2)) (sSeq (drwSet (fun i s => { s with left := i }) (bin divD (drwGet (fun s => .int s.left) (rVar 0)) (rVar 1)) (rVar 0)) (sRet (rVar 2))))))
def sem__law_take (cells : List Int) : List D → M DrS D := runB (rd__law_take cells) N__law_take
abbrev N__law_pick : List Str := ["_law_draw", "_law_some"]
def rd__law_pick (cells : List Int) : Env → M DrS Flw :=
  (sRet (bin ixD (rVar 1) (cal (sem__law_take cells) [] 2 (aCons (rVar 0) (aCons (bcl lenD (aCons (rVar 1) aNil)) aNil)))))
def sem__law_pick (cells : List Int) : List D → M DrS D := runB (rd__law_pick cells) N__law_pick
end DL
set_option Elab.async false
set_option linter.all false
set_option maxRecDepth 100000
set_option maxHeartbeats 4000000
set_option autoImplicit false
namespace DL
open PySem PySem.Spec PyProof.Rows L2 Rh
/-! ### the draws begin -/
def absI (i : Int) : Int := if i < 0 then -i else i
def widesOf (ns : List Int) : List Int := (ns.filter fun n => decide (10 ^ 18 ≤ absI n)).map fun n => absI n - 10 ^ 18
/-- all but the tables of code objects -/
def noT (H : Hp) : Hp := fun a => match H a with
  | some (.tbl _) => none
  | o => o
theorem noT_of {H : Hp} {a : Addr} {o : HO} (e : H a = some o) (n : NoTbl o) : noT H a = some o := by
  unfold noT
  rw [e]
  cases o <;> first | rfl | exact absurd rfl (n _)
theorem noT_same (H : Hp) : Same (noT H) H := fun a o e => by
  unfold noT at e
  cases h : H a with
  | none => rw [h] at e; cases e
  | some u =>
    rw [h] at e
    cases u <;> first | exact e | cases e
theorem noT_nt (H : Hp) (a : Addr) (o : HO) (e : noT H a = some o) : NoTbl o := fun ps z => by
  subst z
  unfold noT at e
  cases h : H a with
  | none => rw [h] at e; cases e
  | some u =>
    rw [h] at e
    cases u <;> cases e
theorem noT_none {H : Hp} {a : Addr} (e : H a = none) : noT H a = none := by unfold noT; rw [e]
theorem noT_sq {K : PySem.W.Frag} {H : Hp} {a : Addr} {xs : List V} (h : SqL K H a xs) : SqL K (noT H) a xs := by
  rcases h with (h | ⟨o, h⟩) | h
  · exact .inl (.inl (noT_of h (by intro _ h; cases h)))
  · exact .inl (.inr ⟨o, noT_of h (by intro _ h; cases h)⟩)
  · exact .inr h
def unitCc (K : PySem.W.Frag) (cad : Str → Addr) (H0 : Hp) : Cc Unit where
  K := K
  cad := cad
  hnd := fun _ => .non
  rep := fun _ H => ∀ a ps, H0 a = some (.tbl ps) → H a = some (.tbl ps)
  reg := fun _ => False
  frame := fun _ _ _ h r a ps e => h _ _ (r a ps e) (.inr trivial)
  there := fun _ _ _ _ h => h.elim
def spBegun (K : PySem.W.Frag) : Sp := fun vs H Q _ => ∃ a ns, vs = [.ref a] ∧ SqL K H a (ns.map V.int) ∧ ns.length ≤ 3000 ∧
  ∀ dp wl cl H', dp ≠ wl → dp ≠ cl → wl ≠ cl → H dp = none → H wl = none → H cl = none → Same H H' → (∀ b, H' b = none → H b = none) → RepDr dp wl cl (ns.map absI) ⟨widesOf ns, 0, 0⟩ H' → Q (.ref dp) H'
theorem repL_ints {S : Type} {C : Cc S} {G : Hp} : ∀ {ns : List Int} {vs : List V}, RepL C G (ns.map .int) vs → vs = ns.map V.int
  | [], _, r => r
  | n :: ns, _, ⟨v, r, e, a, b⟩ => by
    subst e
    have a : v = .int n := a
    subst a
    rw [repL_ints b]; rfl
theorem wide_run {ns : List Int} {x y : Option Slot} (h : ns.length ≤ 3000) : (cmp [2] (iSq (rVar 0)) (gNm 2) (asT (bin geD (bcl absD (aCons (rVar 2) aNil)) (bin powD (rC (.int 10)) (rC (.int 18))))) (bin subD (bcl absD (aCons (rVar 2) aNil)) (bin powD (rC (.int 10)) (rC (.int 18)))) : Env → M Unit D) [some (.val (.scr ns)), x, y] () = .ok (.lst ((widesOf ns).map .int)) () := by
  rw [cmp_run, iSq_run, rVar_zero, Res.bind_ok, Res.bind_ok, if_pos (by rw [List.length_map]; exact sz3 h)]
  rw [calm_of (cmpL_ints (fun n => decide (10 ^ 18 ≤ absI n)) (fun n => .int (absI n - 10 ^ 18)) ?_ ?_)]
  · show Res.ok (D.lst _) () = Res.ok (D.lst _) ()
    unfold widesOf
    rw [List.map_map]; rfl
  · intro n _
    rfl
  · intro n _ _
    rfl
theorem cells_run {ns : List Int} {x y : Option Slot} (h : ns.length ≤ 3000) : (cmp [2] (iSq (rVar 0)) (gNm 2) tYs (bcl absD (aCons (rVar 2) aNil)) : Env → M Unit D) [some (.val (.scr ns)), x, y] () = .ok (.lst ((ns.map absI).map .int)) () := by
  rw [cmp_run, iSq_run, rVar_zero, Res.bind_ok, Res.bind_ok, if_pos (by rw [List.length_map]; exact sz3 h)]
  rw [calm_of (cmpL_intsM (fun n => .int (absI n)) ?_)]
  · show Res.ok (D.lst _) () = Res.ok (D.lst _) ()
    rw [List.map_map]; rfl
  · intro n _
    rfl
def tBegun (F : Fx Unit) : TS := tSeq (tAsg (tLc (tI F (iSq (rVar 0))) (gName 2) (tT F.calm (asT (bin geD (bcl absD (aCons (rVar 2) aNil)) (bin powD (rC (.int 10)) (rC (.int 18)))))) (tE F.calm (bin subD (bcl absD (aCons (rVar 2) aNil)) (bin powD (rC (.int 10)) (rC (.int 18))))) [2]) (gName 1))
      (tRet (tDisp [(tE F (rC (.str "wide")), tVar 1), (tE F (rC (.str "left")), tE F (rC (.int 0))),
        (tE F (rC (.str "cells")), tLc (tI F (iSq (rVar 0))) (gName 2) (tT F.calm tYs) (tE F.calm (bcl absD (aCons (rVar 2) aNil))) [2]),
        (tE F (rC (.str "turn")), tE F (rC (.int 0)))]))
section
variable {K : PySem.W.Frag} {cad : Str → Addr} {H0 : Hp} {E : XK}
theorem begun_of {a : Addr} {ns : List Int} {Q : VK} {D : Ends} (hD : D.rt = Q) (hs : SqL K H0 a (ns.map V.int)) (hl : ns.length ≤ 3000)
    (hq : ∀ dp wl cl H', dp ≠ wl → dp ≠ cl → wl ≠ cl → H0 dp = none → H0 wl = none → H0 cl = none → Same H0 H' → (∀ b, H' b = none → H0 b = none) → RepDr dp wl cl (ns.map absI) ⟨widesOf ns, 0, 0⟩ H' → Q (.ref dp) H') :
    tBegun (fxOf (unitCc K cad H0) (noT H0) H0 E) D (L2.start ["_law_script", "_law_wide", "_law_cell"] [.ref a]) H0 := by
  have st0 : StG (fxOf (unitCc K cad H0) (noT H0) H0 E) (noT H0) (L2.start ["_law_script", "_law_wide", "_law_cell"] [.ref a]) H0 (startE ["_law_script", "_law_wide", "_law_cell"] [.scr ns]) () :=
    ⟨Ext.refl _ _ _, ⟨noT_same _, fun _ _ e => e, fun _ z => z.elim, noT_nt _⟩, repEnv_start (RepL.one ⟨a, rfl, noT_sq hs⟩)⟩
  unfold tBegun tSeq tAsg
  refine tLcN_of (F := fxOf (unitCc K cad H0) (noT H0) H0 E) (own := [2]) (γ := gNm 2) (gw_name (by decide)) _ _ _ ⟨noT H0, _, (), st0, ?_⟩
  show Post _ _ _ ((cmp [2] (iSq (rVar 0)) (gNm 2) _ _ : Env → M Unit DL.D) [some (.val (.scr ns)), none, none] ()) _
  rw [wide_run hl]
  intro v G1 H1 ⟨wl, hv, nw⟩ e1 st1 r1
  subst hv
  have st2 := st1.set 1 r1
  obtain ⟨wl', vw, ew, gw, zw, rw_⟩ := r1
  cases ew
  have hw1 := st1.gd.gh _ _ gw
  rw [repL_ints rw_] at hw1
  intro dp ndp
  have nrd : ∀ b : Addr, ¬ (fxOf (unitCc K cad H0) (noT H0) H0 E).reg b := fun _ z => z
  have ndp0 : H0 dp = none := e1.tr dp ndp
  have hdw : dp ≠ wl := fun z => by rw [z, hw1] at ndp; cases ndp
  obtain ⟨g3, e3⟩ := st2.gd.open_ ndp (.dK [])
  have st3 := st2.ext' e3 g3
  -- wide
  refine ⟨_, _, _, st3, fun v G4 H4 e4 st4 r4 => ?_⟩
  have r4 : v = .str "wide" := r4
  subst r4
  refine ⟨.ref wl, by rfl, ?_⟩
  -- left
  refine ⟨_, _, _, st4, fun v G5 H5 e5 st5 r5 => ?_⟩
  have r5 : v = .str "left" := r5
  subst r5
  refine ⟨_, _, _, st5, fun v G6 H6 e6 st6 r6 => ?_⟩
  have r6 : v = .int 0 := r6
  subst r6
  -- cells
  refine ⟨_, _, _, st6, fun v G7 H7 e7 st7 r7 => ?_⟩
  have r7 : v = .str "cells" := r7
  subst r7
  refine tLcN_of (F := fxOf (unitCc K cad H0) (noT H0) H0 E) (own := [2]) (γ := gNm 2) (gw_name (by decide)) _ _ _ ⟨_, _, _, st7, ?_⟩
  show Post _ _ _ ((cmp [2] (iSq (rVar 0)) (gNm 2) _ _ : Env → M Unit DL.D) [some (.val (.scr ns)), some (.val (.lst ((widesOf ns).map .int))), none] ()) _
  rw [cells_run hl]
  intro v G8 H8 ⟨cl, hv, ncl⟩ e8 st8 r8
  subst hv
  obtain ⟨cl', vc, ec, gc, zc, rc_⟩ := r8
  cases ec
  -- turn
  refine ⟨_, _, _, st8, fun v G9 H9 e9 st9 r9 => ?_⟩
  have r9 : v = .str "turn" := r9
  subst r9
  refine ⟨_, _, _, st9, fun v GA HA eA stA rA => ?_⟩
  have rA : v = .int 0 := rA
  subst rA
  have e37 := (e4.trans e5).trans (e6.trans e7)
  have e8A := e9.trans eA
  have e3A := e37.trans (e8.trans e8A)
  have hdA := e3A.fr dp _ upd_same (nrd dp) (by intro _ h; cases h)
  have hw3 : upd H1 dp (.dK []) wl = some (.lst ((widesOf ns).map V.int)) := by rw [upd_ne hdw.symm]; exact hw1
  have hwA := e3A.fr wl _ hw3 (nrd wl) (by intro _ h; cases h)
  have hc8 := st8.gd.gh _ _ gc
  rw [repL_ints rc_] at hc8
  have hcA := e8A.fr cl _ hc8 (nrd cl) (by intro _ h; cases h)
  have ncl3 := e37.tr cl ncl
  have hcd : dp ≠ cl := fun z => by rw [← z, upd_same] at ncl3; cases ncl3
  have hcw : wl ≠ cl := fun z => by rw [← z, hw3] at ncl3; cases ncl3
  have ncl1 : H1 cl = none := by rw [upd_ne hcd.symm] at ncl3; exact ncl3
  refine ⟨hdA, [(.inr "wide", .ref wl), (.inr "left", .int 0), (.inr "cells", .ref cl), (.inr "turn", .int 0)], rfl, by simp, ?_⟩
  show D.rt _ _
  rw [hD]
  have ne : ∀ b, (upd H1 dp (.dK [])) b = none → H0 b = none := fun b hb => by
    by_cases h : b = dp
    · subst h; exact ndp0
    · rw [upd_ne h] at hb; exact e1.tr b hb
  refine hq dp wl cl _ hdw hcd hcw ndp0 nw (e1.tr cl ncl1) (fun b o hb => ?_) (fun b hb => ?_) ⟨?_, ?_, ?_⟩
  · have h : b ≠ dp := ne_of_none hb ndp0
    rw [upd_ne h]
    by_cases nt : NoTbl o
    · refine e3A.fr b o ?_ (nrd b) nt
      rw [upd_ne h]
      exact e1.fr b o hb (nrd b) nt
    · obtain ⟨ps, hp⟩ := Classical.not_forall.mp nt
      have hp := Classical.not_not.mp hp
      subst hp
      exact stA.gd.w b ps hb
  · by_cases h : b = dp
    · subst h; rw [upd_same] at hb; cases hb
    · rw [upd_ne h] at hb; exact ne b (e3A.tr b hb)
  · rw [upd_same]; rfl
  · rw [upd_ne hdw.symm]; exact hwA
  · rw [upd_ne hcd.symm]; exact hcA
end
end DL
set_option Elab.async false
set_option linter.all false
set_option maxRecDepth 100000
set_option maxHeartbeats 4000000
set_option autoImplicit false
namespace DL
open PySem PySem.Spec PyProof.Rows L2
/-! ### a law by its body -/
theorem drF_ofT {L : LamI} {K : PySem.W.Frag} {cad : Str → Addr} {dp wl cl : Addr} {cells : List Int} {T : List (Addr × Str)} {G H : Hp} {E : XK} (hd : dp ≠ wl ∧ dp ≠ cl ∧ wl ≠ cl) : DrF (fxOf (drawCcL L K cad dp wl cl cells T) G H E) dp wl cl cells :=
  ⟨rfl, rfl, rfl, fun _ _ h => h.1, fun s s' H a o o' r _ e nf h => ⟨h, tabs_keep (fun b u q f => by
    rw [upd_ne (fun z : b = a => by subst z; rw [e] at q; cases q; exact nf f)]; exact q) r.2⟩, fun _ => Iff.rfl, hd.1, hd.2.1, hd.2.2⟩
def spLawT (K : PySem.W.Frag) (T : List (Addr × Str)) : Sp := fun vs H Q _ => ∃ (a : Addr) (ns : List Int), vs = [.ref a] ∧ SqL K H a (ns.map V.int) ∧ ns.length ≤ 3000 ∧ LamX.Tabs T H ∧ ∀ H', Q (.bl true) H'
def tRestL (L : LamI) (K : PySem.W.Frag) (cad : Str → Addr) (H0 : Hp) (E : XK) (T : List (Addr × Str)) (rd : List Int → Env → M DrS Flw) : TS := fun D σ H1 => ∃ dp wl cl cells, (dp ≠ wl ∧ dp ≠ cl ∧ wl ≠ cl) ∧ tS (fxOf (drawCcL L K cad dp wl cl cells T) (noT H0) H1 E) (rd cells) D σ H1
theorem pss_restL {L : LamI} {X : Cx} {rest : List Stmt} {K : PySem.W.Frag} {cad : Str → Addr} {H0 : Hp} {E : XK} {T : List (Addr × Str)} {rd : List Int → Env → M DrS Flw} (h : ∀ (H1 : Hp) (dp wl cl : Addr) (cells : List Int), (dp ≠ wl ∧ dp ≠ cl ∧ wl ≠ cl) → PSs X rest (tS (fxOf (drawCcL L K cad dp wl cl cells T) (noT H0) H1 E) (rd cells))) :
    PSs X rest (tRestL L K cad H0 E T rd) := ⟨fun pins s σ H D I q => by
  obtain ⟨dp, wl, cl, cells, hd, q⟩ := q
  exact (h H dp wl cl cells hd).run pins s σ H D I q⟩
theorem law_ofL {L : LamI} {K : PySem.W.Frag} {cad : Str → Addr} {H0 : Hp} {E E' : XK} {T : List (Addr × Str)} {rd : List Int → Env → M DrS Flw} {N : List Str} {a : Addr} {ns : List Int} {Q : VK} {D : Ends} (hD : D.rt = Q) (hs : SqL K H0 a (ns.map V.int)) (hl : ns.length ≤ 3000) (hT : LamX.Tabs T H0) (hq : ∀ H', Q (.bl true) H')
    (hrd : ∀ (cells : List Int) (s : DrS), ∃ s', rd cells ((startE N [.scr ns]).set 1 (some (.val (.hnd 0)))) s = .ok (.rt (.bl true)) s') :
    tSeq (tAsg (tCall (spBegun K) [] E' (tCons (tVar 0) tNil)) (gName 1)) (tRestL L K cad H0 E T rd) D (L2.start N [.ref a]) H0 := by
  refine ⟨.ref a, rfl, a, ns, rfl, hs, hl, fun dp wl cl H' h1 h2 h3 n1 n2 n3 hsm htr hr => ?_⟩
  refine ⟨dp, wl, cl, ns.map absI, ⟨h1, h2, h3⟩, noT H0, (startE N [.scr ns]).set 1 (some (.val (.hnd 0))), ⟨widesOf ns, 0, 0⟩, ?_, ?_⟩
  · have st : StG (fxOf (drawCcL L K cad dp wl cl (ns.map absI) T) (noT H0) H' E) (noT H0) (L2.start N [.ref a]) H' (startE N [.scr ns]) ⟨widesOf ns, 0, 0⟩ :=
      ⟨Ext.refl _ _ _, ⟨(noT_same H0).trans hsm, ⟨hr, hT.ext hsm⟩, fun b hb => by
        have hb : b = dp ∨ b = wl ∨ b = cl := hb
        rcases hb with rfl | rfl | rfl <;> exact noT_none (by assumption), noT_nt _⟩, repEnv_start (RepL.one ⟨a, rfl, noT_sq hs⟩)⟩
    exact st.set 1 (d := .hnd 0) rfl
  · obtain ⟨s', e⟩ := hrd (ns.map absI) ⟨widesOf ns, 0, 0⟩
    rw [e]
    intro v G' H2 _ _ _ rv
    have rv : v = .bl true := rv
    subst rv
    show D.rt _ _
    rw [hD]
    exact hq H2
/-! ### a head's facts, as one truth -/
section
variable {K : PySem.W.Frag}
theorem insB_ok {x : Str} (h : insB K x = true) : InsOk K (He.ga K x) := by
  obtain ⟨h1, h⟩ := He.ba h
  obtain ⟨h2, h⟩ := He.ba h
  obtain ⟨h3, h⟩ := He.ba h
  obtain ⟨h4, h5⟩ := He.ba h
  exact ⟨He.cls_ok h1, He.eqO_ok h2, He.eqO_ok h3, of_decide_eq_true h4, of_decide_eq_true h5⟩
theorem kitB_ok {cs : List Str} {an : Value → Option Bool} {tr fa : List Str} (h : kitB K cs an (tbOf tr fa) = true) (hi : cs.all (insB K) = true) (ht : ∀ c ∈ tr, c ∉ tyNames → c ∈ cs) (hf : ∀ c ∈ fa, c ∉ tyNames → c ∈ cs) : KitOk K (He.ga K) an (tbOf tr fa) := by
  obtain ⟨h1, h2⟩ := He.ba h
  refine ⟨fun t hm b e => ?_, fun c b e hn => ?_⟩
  · have := List.all_eq_true.mp h1 t hm
    rw [e] at this
    exact of_decide_eq_true this
  · have hc : c ∈ cs := by
      unfold tbOf at e
      split at e
      · rename_i z; exact ht c z hn
      · split at e
        · rename_i z; exact hf c z hn
        · cases e
    refine ⟨insB_ok (List.all_eq_true.mp hi c hc), ?_⟩
    have := List.all_eq_true.mp h2 c hc
    rw [e] at this
    exact of_decide_eq_true this
theorem kit_own {cs : List Str} {ty : List Str} (h : ∀ c ∈ ty, c ∈ tyNames) : ∀ c ∈ ty ++ cs, c ∉ tyNames → c ∈ cs := fun c hc hn => by
  rcases List.mem_append.mp hc with q | q
  · exact absurd (h c q) hn
  · exact q
/-! ### the hook: facts as a list of truths, defs as data -/
variable {fb : PySem.W.Frag → List Bool} {fn : List He5.DefA}
theorem SaysB.fact (c : SaysB fb fn K) (i : Nat) {b : Bool} (h : (fb K)[i]? = some b := by rfl) : b = true := by
  have c1 := (He.ba (show ((fb K).all id && fn.all fun d => d.ok K) = true from congrArg (fun z : He.AlD => z.1) c)).1
  exact List.all_eq_true.mp c1 b (List.mem_of_getElem? h)
theorem SaysB.def_ (c : SaysB fb fn K) (i : Nat) {d : He5.DefA} (h : fn[i]? = some d := by rfl) : ∃ fd, L2.FunD K d.name d.qual d.params d.body d.scope (d.dvs K) (d.kws K) (d.at_ K) fd := by
  have c2 := (He.ba (show ((fb K).all id && fn.all fun d => d.ok K) = true from congrArg (fun z : He.AlD => z.1) c)).2
  have e : fn.map (fun d => He5.fnA K (d.at_ K)) = fn.map He5.DefA.val := congrArg (fun z : He.AlD => z.2) c
  have e2 : (fn.map fun d => He5.fnA K (d.at_ K))[i]? = (fn.map He5.DefA.val)[i]? := by rw [e]
  rw [List.getElem?_map, List.getElem?_map, h] at e2
  exact He5.DefA.funD (Option.some.inj e2) (List.all_eq_true.mp c2 d (List.mem_of_getElem? h))
theorem SaysB.fun_ (c : SaysB fb fn K) (i : Nat) {a : PySem.W.Frag → Addr} {x qual : Str} {st : Stmt} (h : fn[i]? = some (defA a x qual st) := by rfl) : ∃ fd, Fun K x qual st (a K) fd := by
  obtain ⟨fd, F⟩ := c.def_ i h
  exact ⟨fd, He5.fun_of F⟩
end
end DL
set_option Elab.async false
set_option linter.all false
set_option maxRecDepth 100000
set_option maxHeartbeats 4000000
set_option autoImplicit false
/-! more of the ends: defs with defaults, instances that are called -/
namespace DL
open PySem PySem.Spec PyProof.Rows L2
end DL
set_option Elab.async false
set_option linter.all false
set_option maxRecDepth 100000
set_option maxHeartbeats 4000000
set_option autoImplicit false
/-! DL: a def's promise where no repr is under way; the law's call, told so -/
namespace DL
open PySem PySem.Spec PyProof.Rows L2
/-- as FnOk, for callers under which no repr runs -/
structure FnG (P : Program) (w : World) (K : PySem.W.Frag) (mg : Str → Option Value) (base : Heap) (CX : CXT) (k : Nat) (f : Addr) (fd : FuncData) (ps : List Str) (sp : Sp) : Prop where
  len : ∀ vs H Q E, sp vs H Q E → vs.length = ps.length
  run : ∀ (A : Around) (outer : List PySem.Env) (s : Shared) (H : Hp) (args : Args) (us : List Value) (vs : List V) (Q : VK) (E : XK), A.guards = some [] → Room k A → Env0 P w K mg base A outer s H → BindsTo s fd args (ps.zip us) → Vals vs us → sp vs H Q E →
    codeAny (model P w) A (.call (.ref f) args) (CR CX outer P w H s Q E) s
section
variable {P : Program} {w : World} {K : PySem.W.Frag} {mg : Str → Option Value} {base : Heap}
theorem FnG.of {CX : CXT} {k : Nat} {f : Addr} {fd : FuncData} {ps : List Str} {sp : Sp} (F : FnOk P w K mg base CX k f fd ps sp) : FnG P w K mg base CX k f fd ps sp := ⟨F.len, fun A outer s H args us vs Q E _ => F.run A outer s H args us vs Q E⟩
theorem fun_okG {x qual : Str} {st : Stmt} {f : Addr} {fd : FuncData} {N ps : List Str} {k : Nat} {sp : Sp} (F : Fun K x qual st f fd) (S : FnScope N ps (defScope st)) (len : ∀ vs H Q E, sp vs H Q E → vs.length = ps.length)
    (hbody : ∀ (cdv : Value) (A : Around) (outer : List PySem.Env) (s : Shared) (H : Hp) (vs : List V) (Q : VK) (E : XK), A.guards = some [] → Room k (A.deeper (envOfC qual (defScope st) s.heap.objs.size f cdv)) → sp vs H Q E →
      ∃ t, PSs (cxOf (L2.CX P w) P w K mg base N qual (defScope st) f cdv A outer s H E) (defBody st) t ∧ t { nx := fun _ H' => Q .non H', rt := Q } (L2.start N vs) H) : FnG P w K mg base (L2.CX P w) (k + 1) f fd ps sp := by
  obtain ⟨oc, od, kV, doc, pm, an, cdv, ct, osl, rfl, lk, hcd⟩ := F.ex
  exact ⟨len, fun A outer s H args us vs Q E hg hr e0 hb r hsp => LamX.run_ofS lk hcd S hr e0 hb r (len _ _ _ _ hsp) fun hr' => hbody cdv A outer s H vs Q E hg hr' hsp⟩
end
end DL
set_option Elab.async false
set_option linter.all false
set_option maxRecDepth 100000
set_option maxHeartbeats 4000000
set_option autoImplicit false
/-! DL: facts of exception classes as truths; tuples as targets of comprehensions; a list many times -/
namespace DL
open PySem PySem.Spec PyProof.Rows L2
section
variable {K : PySem.W.Frag}
def oexB (K : PySem.W.Frag) (C : Addr) : Bool := (match K.lookup C with
  | some ⟨.type "type", _, .cls cd, sl⟩ => (match cd.mro, sl.toList with
    | .ref C' :: bm, [_, _, _, _, some (.builtin n), _] => C' == C && n == "ValueError.__new__" && !cd.hasDel && cd.hasDict && PySem.HandSPX.refsVE bm
    | _, _ => false)
  | _ => false) && (He.eqO (PySem.W.findIn K (.ref C) "__setattr__") (some (some (.builtin "object.__setattr__"))) && (decide (PySem.W.subIn K (.ref C) (.type "BaseException") = some true) && (decide (PySem.W.typeIn K (.ref C) = some (.type "type")) && PySem.W.keepIn K (.ref C))))
theorem oexB_ok {C : Addr} (h : oexB K C = true) : OexC K C := by
  obtain ⟨h1, h⟩ := He.ba h
  obtain ⟨h2, h⟩ := He.ba h
  obtain ⟨h3, h⟩ := He.ba h
  obtain ⟨h4, h5⟩ := He.ba h
  refine ⟨?_, He.eqO_ok h2, of_decide_eq_true h3, of_decide_eq_true h4, h5⟩
  split at h1
  · rename_i dd cd sl ho
    split at h1
    · rename_i C' bm k0 k1 k2 k3 n k5 hm hs
      simp only [Bool.and_eq_true, beq_iff_eq, Bool.not_eq_true'] at h1
      obtain ⟨⟨⟨⟨rfl, rfl⟩, hdel⟩, hhd⟩, hr⟩ := h1
      obtain ⟨nm, bs, mro, ns, qn, hd, sn, sub, ab, col, del⟩ := cd
      dsimp only at hm hdel hhd
      subst hm hdel hhd
      have hsl : sl = #[k0, k1, k2, k3, some (.builtin "ValueError.__new__"), k5] := by
        obtain ⟨l⟩ := sl
        simp only at hs
        rw [hs]
      subst hsl
      exact ⟨nm, qn, ns, bs, bm, sn, sub, ab, col, dd, k0, k1, k2, k3, k5, ho, hr⟩
    · cases h1
  · cases h1
theorem xcB_ok {x : Str} (h : xcB K x = true) : ExcC K (He.ga K x) := by
  obtain ⟨h1, h⟩ := He.ba h
  obtain ⟨h2, h⟩ := He.ba h
  obtain ⟨h3, h⟩ := He.ba h
  obtain ⟨h4, h⟩ := He.ba h
  obtain ⟨h5, h⟩ := He.ba h
  obtain ⟨h6, h⟩ := He.ba h
  obtain ⟨h7, h8⟩ := He.ba h
  exact ⟨He.eqO_ok h1, He.eqO_ok h2, of_decide_eq_true h3, h4, He.eqO_ok h5, He.eqO_ok h6, of_decide_eq_true h7, of_decide_eq_true h8⟩
/-- a table of exception classes: those of which isinstance tells True, those of False -/
theorem kxB_ok {an : Value → Option Bool} {tr fa xs : List Str} (h : kxB K an tr fa = true) (hx : xs.all (xcB K) = true) (ht : ∀ c ∈ tr, c ∈ xs) (hf : ∀ c ∈ fa, c ∈ xs) : KxOk K (He.ga K) an (tbOf tr fa) := by
  obtain ⟨h1, h2⟩ := He.ba h
  intro c b e
  unfold tbOf at e
  split at e
  · rename_i z
    cases e
    exact ⟨xcB_ok (List.all_eq_true.mp hx c (ht c z)), of_decide_eq_true (List.all_eq_true.mp h1 c z)⟩
  · split at e
    · rename_i z
      cases e
      exact ⟨xcB_ok (List.all_eq_true.mp hx c (hf c z)), of_decide_eq_true (List.all_eq_true.mp h2 c z)⟩
    · cases e
/-- classes of exceptions whose attribute f is their instances' own -/
theorem xfB_ok {f : Str} {cs : List Str} (h : xfB K f cs = true) : ∀ c ∈ cs, ExcC K (He.ga K c) ∧ PySem.W.findIn K (.ref (He.ga K c)) f = some none := fun c hc => by
  obtain ⟨h1, h2⟩ := He.ba (List.all_eq_true.mp h c hc)
  exact ⟨xcB_ok h1, He.eqO_ok h2⟩
end
end DL
namespace DL
open PySem PySem.Spec PyProof.Rows L2
theorem u70 {k : Nat} {A : Around} (r : Room k A) : A.units + 70 < cLine := by have := r.un; omega
theorem xf_cast {S : Type} {K : PySem.W.Frag} {C : Cc S} {cs : List Str} {f : Str} (h1 : K = C.K) (h2 : C.cad = He.ga K) (h : ∀ c ∈ cs, ExcC K (He.ga K c) ∧ PySem.W.findIn K (.ref (He.ga K c)) f = some none) : ∀ c ∈ cs, ExcC C.K (C.cad c) ∧ PySem.W.findIn C.K (.ref (C.cad c)) f = some none := by
  subst h1
  rw [h2]
  exact h
end DL
set_option Elab.async false
set_option linter.all false
set_option maxRecDepth 100000
set_option maxHeartbeats 4000000
set_option autoImplicit false
/-! DL: raise; an error that is caught and kept -/
namespace DL
open PySem PySem.Spec PyProof.Rows L2
section
variable {S : Type} {X : Cx} {F : Fx S}
/-! ### raise C(e) -/
def sRaise (c f : Str) (τ : Env → M S D) : Env → M S Flw := fun env => do throwD (.exc c [(f, ← τ env)])
theorem ds_raise {x f c : Str} {C fI : Addr} {k : Nat} {fd : FuncData} {ps : List Str} {e : Expr} {p pos pos2 : Pos} {τ : Env → M S D} (hC : F.cad c = C) (T : OexC X.K C) (iC : PySem.W.findIn X.K (.ref C) "__init__" = some (some (.ref fI))) (tI : PySem.W.typeIn X.K (.ref fI) = some (.type "function"))
    (F1 : FnOk X.prog X.w X.K X.mg X.base (L2.CX X.prog X.w) k fI fd ps (spXI C f)) (hr : Room (k + 1) X.A) (hb : Binds X.K fd ps []) (hx : Passes (L2.CX X.prog X.w) X (fun _ _ _ => False)) (hg : Gl X x) (hm : X.mg x = some (.ref C)) (hc : X.calm = true) (tk : Takes X F.wish) (ha : PE X e (tE F τ))
    (hdb : (x == ("__debug__" : Str)) = false := by decide) (he : starEach [e] X.env = (false, eval e X.env) :: starEach [] X.env := by rfl) : PS X (.Raise (some (.Call (.Name x p) [e] [] pos2)) none pos) (tS F (sRaise c f τ)) :=
  ps_mono (ps_raise hc tk (pmk_oex T iC tI F1 hr hb .nil hx hg hm (pa_cons ha pa_nil he) hdb he rfl)) fun D σ H ⟨G, env, s, st, p⟩ => by
    refine seqE st p fun d s1 v G1 H1 e1 st1 r1 p1 => ?_
    refine ⟨by show 1 ≤ 1000; decide, fun a na => ⟨a, v, rfl, upd_same, fun dx n ne => ⟨rfl, dx, [(f, v)], upd_same, by rw [upd_ne ne, upd_same], ?_, ?_⟩⟩⟩
    · rw [upd_ne ne] at n; exact n
    · have nd : H1 dx = none := by rw [upd_ne ne] at n; exact n
      have eH : upd (L2.del (upd (upd (upd H1 a (exo a C none)) dx (exd dx [(f, v)])) a (exo a C (some dx))) a) dx (.xd [(f, v)]) = upd H1 dx (.xd [(f, v)]) := by
        funext b
        by_cases h1 : b = dx
        · subst h1; rw [upd_same, upd_same]
        · rw [upd_ne h1, upd_ne h1]
          by_cases h2 : b = a
          · subst h2; rw [L2.del_same, na]
          · rw [L2.del_ne h2, upd_ne h2, upd_ne h1, upd_ne h2]
      rw [eH]
      obtain ⟨e2, st2⟩ := st1.new nd (.xd [(f, v)])
      subst hC
      exact p1 _ _ σ _ _ e2.g st2.ext st2.gd ⟨rfl, .inr ⟨dx, [(f, v)], rfl, upd_same, v, [], rfl, r1.mono e2.g, rfl⟩⟩
end
/-! ### an exception object is tracked from now on -/
section
variable {X : Cx} {pins : List (Addr × Obj)} {σ : L2.St} {H : Hp} {s : Shared}
theorem adopt {a C : Addr} {d : Option Addr} {oe : Obj} {vs : Array Value} (I : Inv X ((a, oe) :: pins) σ H s) (hz : Zc (.ref C) d oe) (hv : oe.data = .fields vs) (n0 : X.s_0.heap.get? a = none) (np : ∀ p ∈ X.pn ++ pins, p.1 ≠ a) : Inv X pins σ (upd H a (exv a C d)) s := by
  obtain ⟨ha, na, nL, nF, _⟩ := I.pin (a, oe) (List.mem_append.mpr (.inr List.mem_cons_self))
  have ne0 : ∀ b o, X.s_0.heap.get? b = some o → b ≠ a := fun b o e z => by rw [z, n0] at e; cases e
  have neH : ∀ {b o}, H b = some o → b ≠ a := fun {b o} e => ne_of_none e na
  refine ⟨I.ok, I.os, I.bare, ⟨I.base.keep, I.base.slot, fun b o e n hq => ?_, I.base.there, fun b xs e => ?_, fun b o u e => ?_, fun b ps e => ?_⟩, I.loc, I.cell, ?_, fun x c e => ?_, fun p hp => ?_, fun b u e => ?_, I.len⟩
  · rw [upd_ne (ne0 b o e)]; exact I.base.free b o e n hq
  · have q := I.base.tups b xs e
    rw [upd_ne (neH q)]; exact q
  · have q := I.base.frzs b o u e
    rw [upd_ne (neH q)]; exact q
  · obtain ⟨m, q⟩ := I.base.tbls b ps e
    exact ⟨m, by rw [upd_ne (neH q)]; exact q⟩
  · rw [upd_ne (Ne.symm nL)]; exact I.free
  · have hc : c ≠ a := fun z => by
      obtain ⟨v, o, ho, hd⟩ := I.cell x c e
      rw [z, ha] at ho
      cases ho
      rw [hv] at hd; cases hd
    rw [upd_ne hc]; exact I.freeC x c e
  · obtain ⟨e, n, r⟩ := I.pin p (by
      rcases List.mem_append.mp hp with h | h
      · exact List.mem_append.mpr (.inl h)
      · exact List.mem_append.mpr (.inr (List.mem_cons_of_mem _ h)))
    exact ⟨e, by rw [upd_ne (np p hp)]; exact n, r⟩
  · by_cases hb : b = a
    · subst hb
      rw [upd_same] at e
      cases e
      exact exv_ok ha hz hv
    · rw [upd_ne hb] at e
      exact (I.hok b u e).stay (fun c v _ q => q) (fun c q => by rw [upd_ne (neH q)]; exact q) fun c xs q => by rw [upd_ne (neH q)]; exact q
/-- what 'try: body / except x as n: m = n' wishes of an exception of the body: slot i is n's, slot j m's -/
def wKeep (K : PySem.W.Frag) (c : Value) (i j : Nat) (D : Ends) : WX := fun cls d σ H => ∃ C : Addr, cls = .ref C ∧ PySem.W.exmOne K cls c = some true ∧ ∀ a, H a = none → D.nx (((σ.set i (some (.ref a))).set j (some (.ref a))).set i none) (upd H a (exv a C d))
theorem ps_keep {x n m : Str} {c : Value} {i j : Nat} {body : List Stmt} {np pos pos' pm pn' pos2 : Pos} {tb : WX → TS} (hs : X.stack = X.env :: X.outer) (hf : X.env.frame = some X.env.locals) (hex : X.ex = []) (hN : X.N.Nodup) (hi : X.N[i]? = some n) (hln : X.env.kindOf n = some .local) (hj : X.N[j]? = some m) (hlm : X.env.scope.names.lookup m = some .local) (hc : Names X x c)
    (hdn : (n == ("__debug__" : Str)) = false) (hcn : (n == ("__classdict__" : Str)) = false)
    (hb : ∀ (W : WX) (pn : List (Addr × Obj)) (xe : Value → Shared → Prop), Takes (X.tr pn xe) W → PassesOwn (model X.prog X.w) X.A X.env xe → PSs (X.tr pn xe) body (tb W))
    (hsw : swapsWithSole [.Name m pm] (.Name n pn') pos2.line X.env = pure false) (hsw2 : swappedStores [.Name m pm] (.Name n pn') X.env = pure none) (hsw3 : (assignEach [.Name m pm] X.env).map (·.2) = [assign (.Name m pm) X.env]) :
    PS X (.Try body [.ExceptHandler (some (.Name x np)) (some n) [.Assign [.Name m pm] (.Name n pn') pos2] pos'] [] [] pos) (fun D σ H => tb (wKeep X.K c i j D) D σ H) := by
  refine ⟨fun pins s σ H D I h => ?_⟩
  have ok := I.ok
  have hfr : X.A.frames = some (X.env :: X.outer) := by rw [ok.frames, hs]
  have hloc : Loc X.env.scope n := .inl hln
  refine wpAny_Try_except ?_
  refine wpAny_mono ((hb (wKeep X.K c i j D) (X.pn ++ pins) (fun e s₁ => wpAny (model X.prog X.w) X.A (noteFrame e X.env) (fun _ s₂ => wpAny (model X.prog X.w) X.A (setFlight e none) (fun _ s₃ =>
    wpAny (model X.prog X.w) X.A (handleBy e X.env [.ExceptHandler (some (.Name x np)) (some n) [.Assign [.Name m pm] (.Name n pn') pos2] pos']) (SP X pins D) X.xe s₃) X.xe s₂) X.xe s₁) (fun u s' xx => ?_) PassesOwn.looking).run [] s σ H D (I.toTry _) h) (fun f s1 hsp => ?_) (fun e s1 he => he)
  · obtain ⟨a, B, sI, pins', σ', H', cls, d, rfl, J', nb, up, sky, na, os, ag, C, rfl, hb1, hyes⟩ := xx
    have J : Inv X pins σ' H' sI := J'.ofTry ok
    have sky' : Sky B (X.env :: X.outer) a (Zc (.ref C) d) X.env.locals s'.heap := by rw [← hs]; exact sky
    show wpAny (model X.prog X.w) X.A (noteFrame (.ref a) X.env) _ _ _
    refine Sky.land Zc.steady hfr hf sky' fun h3 fl3 up3 => ?_
    have J3 : Inv X pins σ' H' { s' with heap := h3 } := J.landed nb fl3.1 (up.trans up3) os ag
    obtain ⟨oe3, vs3, he3, hz3, hd3⟩ := fl3.there
    have nfr : a ∉ frs (X.env :: X.outer) := fun hm => by
      obtain ⟨_, o', e', hnf⟩ := fl3.2.2.1.mem hm
      rw [he3] at e'; cases e'
      exact hnf _ hd3
    have nI : sI.heap.get? a = none := by
      cases q : sI.heap.get? a with
      | none => rfl
      | some o =>
        have z := nb a o q (by
          show a ∉ frs X.stack
          rw [hs]; exact nfr)
        rw [fl3.2.1] at z; cases z
    have nL : a ≠ X.env.locals := fun z => nfr (List.mem_filterMap.mpr ⟨X.env, List.mem_cons_self, by rw [hf, z]⟩)
    have nF : a ∉ X.fs := fun hm => by
      obtain ⟨e, he, q⟩ := List.mem_filterMap.mp hm
      exact nfr (List.mem_filterMap.mpr ⟨e, List.mem_cons_of_mem _ he, q⟩)
    have n0 : X.s_0.heap.get? a = none := by
      cases q : X.s_0.heap.get? a with
      | none => rfl
      | some o =>
        obtain ⟨o', z⟩ := J.base.there a o q (by rw [hex]; exact fun z => nomatch z)
        rw [nI] at z; cases z
    have npa : ∀ p ∈ X.pn ++ pins, p.1 ≠ a := fun p hp z => by
      obtain ⟨e, _⟩ := J.pin p hp
      rw [z, nI] at e; cases e
    have S3 := J3.suite he3 hd3 na nL nF
    refine wpAny_handleBy_cons (codeAny_handlers_test ?_) (by intro q; cases q)
    have LT : PySem.W.Looks (model X.prog X.w) h3 (typeOf (.ref a)) (.ref C) := fun A Q E s k q => wpAny_typeOf_ref (k _ _ he3) (by rw [hz3.1]; exact q)
    have LM := PySem.W.exm_one (M := model X.prog X.w) (J3.kIn) LT hb1
    have test : ∀ {Q : Value → Shared → Prop} {E : Value → Shared → Prop}, Q c { s' with heap := h3 } → wpAny (model X.prog X.w) (X.A.mark (some (.ref a))) (eval (.Name x np) X.env) Q E { s' with heap := h3 } := fun {Q E} q => by
      obtain ⟨hg, hdbg, hm | ⟨hm, hv, hnn⟩⟩ := hc
      · exact ld_glob (X := X.suite a ((a, oe3) :: (X.pn ++ pins))) S3 hg hm q hdbg
      · exact ld_blt (X := X.suite a ((a, oe3) :: (X.pn ++ pins))) S3 hg hm hv q hnn hdbg
    refine test (LM.here ?_)
    refine codeAny_handlers_suite_as ?_
    refine HandSPX.lands_againZ fl3 fun h4 fl4 up4 => ?_
    have J4 : Inv X pins σ' H' { s' with heap := h4 } := J.landed nb fl4.1 ((up.trans up3).trans up4) os ag
    obtain ⟨oe4, vs4, he4, hz4, hd4⟩ := fl4.there
    have S4 := J4.suite he4 hd4 na nL nF
    refine store_ok (X := X.suite a ((a, oe4) :: (X.pn ++ pins))) (v := .ref a) S4 hN hi hloc rfl (fun s5 S5 => ?_) (.inr hln)
    have iσ : i < σ'.length := by rw [J.len]; exact (List.getElem?_eq_some_iff.mp hi).1
    have suite : PSs (X.suite a ((a, oe4) :: (X.pn ++ pins))) [.Assign [.Name m pm] (.Name n pn') pos2] (tAsg (tVar i) (gName j)) := pss_one (ps_asg (pe_var (i := i) hi (.inl hln) hdn hcn) (pg_name (i := j) hN hj (.inl hlm) (.inr hlm)) hsw hsw2 hsw3)
    refine wpAny_mono (suite.run [] s5 _ H' { nx := fun σ6 H6 => σ6 = (σ'.set i (some (.ref a))).set j (some (.ref a)) ∧ H6 = H', rt := fun _ _ => False } S5 ⟨.ref a, List.getElem?_set_self iσ, rfl, rfl⟩) (fun f s6 hsp => ?_) (fun _ _ z => False.elim z)
    cases f with
    | next =>
      obtain ⟨σ6, H6, S6, e6, eH⟩ := hsp
      subst e6
      subst eH
      have I6 : Inv X ((a, oe4) :: pins) ((σ'.set i (some (.ref a))).set j (some (.ref a))) H6 s6 := ⟨ok, S6.os, S6.bare, S6.base, S6.loc, S6.cell, S6.free, S6.freeC, fun p hp => S6.pin p (by
        have hp' : p ∈ X.pn ++ (a, oe4) :: pins := hp
        rcases List.mem_append.mp hp' with h | h
        · exact List.mem_append_left _ (List.mem_cons_of_mem _ (List.mem_append_left _ h))
        · rcases List.mem_cons.mp h with h | h
          · rw [h]; exact List.mem_append_left _ List.mem_cons_self
          · exact List.mem_append_left _ (List.mem_cons_of_mem _ (List.mem_append_right _ h))), S6.hok, S6.len⟩
      refine gone_ok I6 hN hi hln fun s7 J7 => ?_
      exact ⟨_, _, adopt J7 hz4 hd4 n0 npa, hyes a na⟩
    | brk => obtain ⟨_, _, _, z⟩ := hsp; exact z.elim
    | cont => obtain ⟨_, _, _, z⟩ := hsp; exact z.elim
    | ret u => obtain ⟨_, _, _, _, _, z⟩ := hsp; exact z.elim
  · cases f with
    | next =>
      obtain ⟨σ', H', J', q⟩ := hsp
      exact wpAny_execs_nil ⟨σ', H', J'.ofTry ok, q⟩
    | brk =>
      obtain ⟨σ', H', J', q⟩ := hsp
      exact ⟨σ', H', J'.ofTry ok, q⟩
    | cont =>
      obtain ⟨σ', H', J', q⟩ := hsp
      exact ⟨σ', H', J'.ofTry ok, q⟩
    | ret u =>
      obtain ⟨v, σ', H', J', r, q⟩ := hsp
      exact ⟨v, σ', H', J'.ofTry ok, r, q⟩
end
end DL
set_option Elab.async false
set_option linter.all false
set_option maxRecDepth 100000
set_option maxHeartbeats 4000000
set_option autoImplicit false
/-! DL: a lambda handed to a def: the library's two rules (HandS.Lambda), turned so that they tell that nothing is lost -/
namespace DL
open PySem PySem.Spec PyProof.Rows L2 LamX
def tLamR (T : List (Addr × Str)) (TT : (XK → Hp → VK → Prop) → Hp → VK → Prop) (t : XK → TE) : TE := fun σ H Q => Tabs T H ∧ ∀ H1, ExtN H H1 → (∀ b, H1 b = none → H b = none) → Tabs T H1 → TT (fun E H' Q' => t E σ H' Q') H1 Q
section
variable {X : Cx} {pins : List (Addr × Obj)} {σ : L2.St} {H : Hp} {s : Shared}
/-- the lambda is made -/
theorem lam_makeR {T : List (Addr × Str)} {c P : Addr} {params : Arguments} {body : Expr} {scope : Scope} {pos : Pos} {E : Value → Shared → Prop} {Q : Value → Shared → Prop} (I : Inv X pins σ H s) (TB : TabB X.base X.mg c P) (hcode : X.env.code = .ref c)
    (hm : (P, X.env.qual ++ "<lambda>") ∈ T) (hu : ∀ p ∈ T, p.1 = P → p.2 = X.env.qual ++ "<lambda>") (hT : Tabs T H) (hdef : defaultsOf params X.env = ([], [])) (hfree : ∀ y ∈ scope.names, y.2 = .free → ∃ c, X.env.cells.lookup y.1 = some c)
    (h : ∀ (f c' : Addr) (pm ctv : Value) (H1 : Hp) (s' : Shared), Inv X pins σ H1 s' → ExtN H H1 → (∀ b, H1 b = none → H b = none) → Tabs T H1 →
      s'.heap.get? f = some (PySem.W.kla_obj "<lambda>" (X.env.qual ++ "<lambda>") params body scope (cloFrom X.env.cells scope.names []) pm c' ctv) → H1 f = none → f ∉ frs X.stack → H1 c' = some (CodeO c' (X.env.qual ++ "<lambda>")) → Q (.ref f) s') :
    wpAny (model X.prog X.w) X.A (eval (.Lambda params body scope pos) X.env) Q E s := by
  obtain ⟨ps, hP, ht, ha⟩ := hT _ hm
  refine PySem.W.kla_eval hdef ?_
  have bP : s.heap.BuiltinsAt X.mg P := TB.bm.keeps I.bk
  have hP' : s.heap.get? P = some { cls := .none, data := .fields ps } := I.hok P _ hP
  have nofr : ∀ f, s.heap.objs.size ≤ f → f ∉ frs X.stack := fun f hf z => by
    rcases List.mem_cons.mp (I.stkSub _ z) with e | e
    · have h1 := I.lt
      rw [← e] at h1
      exact Nat.lt_irrefl _ (Nat.lt_of_lt_of_le h1 hf)
    · exact I.nofs hf e
  cases hc : codeAmong pos ps.toList with
  | none =>
    refine PySem.W.kla_makeFunction (mg := X.mg) (c := c) (P := P) (ps := ps) (closure_ok hfree) I.ok.glob (I.mod.glob.keeps I.bk) hcode (TB.code.keeps I.bk) hP' ht hc TB.gP bP fun c' ctv h' tk hx hge hlt hrec htb => ?_
    obtain ⟨c2, oc, vs, t, e2, hoc, hd, hv⟩ := hrec
    cases e2
    have hsz : s.heap.objs.size ≤ h'.objs.size := Nat.le_trans hge (Nat.le_of_lt hlt)
    have nC : H c' = none := I.hok.fresh hge
    have I1 := inv_table (t' := tk) (more := #[rawInt pos.line, rawInt pos.col, .ref c']) (h' := h'.push (PySem.W.kla_obj "<lambda>" (X.env.qual ++ "<lambda>") params body scope (cloFrom X.env.cells scope.names []) ((X.mg "__name__").getD .none) c' ctv)) I hP
      (fun b o hb e => Heap.get?_push_of_some _ (hx b o hb e)) (Heap.get?_push_of_some _ htb) hge ⟨oc, vs, t, Heap.get?_push_of_some _ hoc, hd, hv⟩
    have hE : ExtN H (upd (upd H P (.tbl (ps ++ #[rawInt pos.line, rawInt pos.col, .ref c']))) c' (CodeO c' (X.env.qual ++ "<lambda>"))) := fun b o e n => by
      rw [upd_ne (ne_of_none e nC), upd_ne (fun z => n ps (Option.some.inj (e.symm.trans (by rw [z]; exact hP))))]
      exact e
    have hR : ∀ b, (upd (upd H P (.tbl (ps ++ #[rawInt pos.line, rawInt pos.col, .ref c']))) c' (CodeO c' (X.env.qual ++ "<lambda>"))) b = none → H b = none := fun b e => by
      by_cases h1 : b = c'
      · rw [h1]; exact nC
      · rw [upd_ne h1] at e
        by_cases h2 : b = P
        · rw [h2, upd_same] at e; cases e
        · rw [upd_ne h2] at e; exact e
    have eL : (ps ++ #[rawInt pos.line, rawInt pos.col, .ref c']).toList = ps.toList ++ [rawInt pos.line, rawInt pos.col, .ref c'] := by simp
    refine h h'.objs.size c' ((X.mg "__name__").getD .none) ctv _ _ I1 hE hR (fun p hp => ?_) (Heap.get?_push_size _ rfl) ?_ (nofr _ hsz) upd_same
    · by_cases hb : p.1 = P
      · rw [hu p hp hb, hb]
        refine ⟨_, by rw [upd_ne (ne_of_none hP nC), upd_same], by rw [eL]; exact PySem.TriplesOk_snoc _ _ _ _ ht, fun p' cv hcv => ?_⟩
        rw [eL] at hcv
        rcases among_app _ ht hcv with z | z
        · obtain ⟨c0, e1, e2⟩ := ha p' cv z
          exact ⟨c0, e1, hE _ _ e2 codeO_ne⟩
        · exact ⟨c', z, upd_same⟩
      · obtain ⟨ps', a1, a2, a3⟩ := hT p hp
        refine ⟨ps', by rw [upd_ne (ne_of_none a1 nC), upd_ne hb]; exact a1, a2, fun p' cv hcv => ?_⟩
        obtain ⟨c0, e1, e2⟩ := a3 p' cv hcv
        exact ⟨c0, e1, hE _ _ e2 codeO_ne⟩
    · have n1 : h'.objs.size ≠ c' := Nat.ne_of_gt hlt
      have n2 : h'.objs.size ≠ P := Nat.ne_of_gt (Nat.lt_of_lt_of_le (Heap.lt_size hP') hsz)
      rw [upd_ne n1, upd_ne n2]
      exact I.hok.fresh hsz
  | some cv =>
    obtain ⟨c', e, hco⟩ := ha pos cv hc
    subst e
    refine PySem.W.kla_makeFunctionHit (mg := X.mg) (c := c) (P := P) (ps := ps) (closure_ok hfree) I.ok.glob (I.mod.glob.keeps I.bk) hcode (TB.code.keeps I.bk) hP' ht hc bP fun ctv h' tk hx hsz => ?_
    have I1 : Inv X pins σ H { s with heap := h'.push (PySem.W.kla_obj "<lambda>" (X.env.qual ++ "<lambda>") params body scope (cloFrom X.env.cells scope.names []) ((X.mg "__name__").getD .none) c' ctv), toks := tk } := I.kept fun b o e => Heap.get?_push_of_some _ (hx b o e)
    exact h h'.objs.size c' ((X.mg "__name__").getD .none) ctv H _ I1 (ExtN.refl H) (fun _ e => e) hT (Heap.get?_push_size _ rfl) (I.hok.fresh hsz) (nofr _ hsz) hco
end
end DL
namespace DL
open PySem PySem.Spec PyProof.Rows L2 LamX
/-! ### caught: found = None / try: work() / except x as error: found = error / return found -/
def EKeep (K : PySem.W.Frag) (c : Value) (Q : VK) : XK := fun cls d H' => ∃ C : Addr, cls = .ref C ∧ PySem.W.exmOne K cls c = some true ∧ ∀ a, H' a = none → Q (.ref a) (upd H' a (exv a C d))
def TKeep (K : PySem.W.Frag) (c : Value) : (XK → Hp → VK → Prop) → Hp → VK → Prop := fun tl H Q => tl (EKeep K c Q) H fun _ H' => Q .non H'
theorem takes_len {X : Cx} {W : WX} (tk : Takes X W) : Takes X (fun cls d σ H => σ.length = X.N.length → W cls d σ H) := fun u s' ⟨a, B, sI, pins, σ, H, cls, d, e, I, nb, up, sky, na, os, ag, w⟩ =>
  tk u s' ⟨a, B, sI, pins, σ, H, cls, d, e, I, nb, up, sky, na, os, ag, w I.len⟩
/-- return m, slot 1 -/
def uRet1 : TS := fun D σ H => match σ[1]? with
  | some (some v) => D.rt v H
  | _ => False
theorem keep_gives {X : Cx} {x a n m e q : Str} {sg : Scope} {g CS : Addr} {cdg : Value} {j0 : Nat} {p1 p2 p3 p4 p5 p6 p7 p8 p9 p10 p11 p12 p13 p14 : Pos} (hnd : [a, m, n].Nodup) (hsc : sg.kind = .function) (hge : sg.names.lookup e = some .globalImplicit) (hme : X.mg e = some (.ref CS)) (hde : (e == ("__debug__" : Str)) = false)
    (hln : sg.names.lookup n = some .local) (hlm : sg.names.lookup m = some .local) (hdn : (n == ("__debug__" : Str)) = false) (hcn : (n == ("__classdict__" : Str)) = false) (hdm : (m == ("__debug__" : Str)) = false) (hcm : (m == ("__classdict__" : Str)) = false)
    (hsw1 : ∀ env : PySem.Env, swapsWithSole [.Name m p1] (.Constant .none j0 p2) p3.line env = pure false) (hsw1b : ∀ env : PySem.Env, swappedStores [.Name m p1] (.Constant .none j0 p2) env = pure none)
    (hsx : ∀ env : PySem.Env, env.scope = sg → swapsWith (.Call (.Name a p4) [] [] p5) none p6.line env = pure false)
    (hsw2 : ∀ env : PySem.Env, env.scope = sg → swapsWithSole [.Name m p8] (.Name n p9) p10.line env = pure false) (hsw2b : ∀ env : PySem.Env, swappedStores [.Name m p8] (.Name n p9) env = pure none) :
    GivesTo X [a, m, n] x sg g cdg [.Assign [.Name m p1] (.Constant .none j0 p2) p3, .Try [.Expr (.Call (.Name a p4) [] [] p5) p6] [.ExceptHandler (some (.Name e p7)) (some n) [.Assign [.Name m p8] (.Name n p9) p10] p11] [] [] p12, .Return (some (.Name m p13)) p14] a q (TKeep X.K (.ref CS)) := by
  intro f c' s H Q tl act hc h
  have hgl : Gl (cxOf C8.CX0 X.prog X.w X.K X.mg X.base [a, m, n] x sg g cdg X.A X.stack s H C8.E0).nox e := hge
  have hret : PSs (cxOf C8.CX0 X.prog X.w X.K X.mg X.base [a, m, n] x sg g cdg X.A X.stack s H C8.E0).nox [.Return (some (.Name m p13)) p14] uRet1 := pss_mono (pss_one (ps_ret (pe_var (i := 1) rfl (.inl hlm) hdm hcm))) fun D σ H q => by
    unfold uRet1 at q
    split at q
    · rename_i v e; exact ⟨v, e, q⟩
    · exact q.elim
  refine ⟨_, pss_cons (ps_asg pe_non (pg_name (i := 1) hnd rfl (.inl hlm) (.inr hlm)) (hsw1 _) (hsw1b _)) (pss_cons (ps_keep (X := (cxOf C8.CX0 X.prog X.w X.K X.mg X.base [a, m, n] x sg g cdg X.A X.stack s H C8.E0).nox) (i := 2) (j := 1) (c := .ref CS)
      (tb := fun W D σ H => ∃ Ech : XK, (∀ cls d σ' H', Ech cls d H' → σ'.length = 3 → W cls d σ' H') ∧ σ[0]? = some (some (.ref f)) ∧ H c' = some (CodeO c' q) ∧ tl Ech H fun _ H' => D.nx σ H')
      rfl rfl rfl hnd rfl hln rfl hlm ⟨hgl, hde, .inl hme⟩ hdn hcn (fun W pn xe tk _ => ?_) (hsw2 _ rfl) (hsw2b _) rfl) hret), ?_⟩
  · refine ⟨fun pins s' σ H' D I h' => ?_⟩
    obtain ⟨Ech, hW, h1, h2, h3⟩ := h'
    have hp := act _ pn xe Ech p4 p5 (takes_len tk) (fun cls d σ' H' he hl => hW cls d σ' H' he hl)
    have hq := pss_one (ps_expr (pos := p6) hp (hsx _ rfl))
    exact hq.run pins s' σ H' D I ⟨h1, h2, h3⟩
  · refine ⟨EKeep X.K (.ref CS) Q, fun cls d σ' H' ⟨C, ec, ex, hq⟩ hl => ⟨C, ec, ex, fun a na => ?_⟩, rfl, hc, h⟩
    match σ', hl with
    | [o1, o2, o3], _ => exact hq a na
end DL
set_option Elab.async false
set_option linter.all false
set_option maxRecDepth 100000
set_option maxHeartbeats 4000000
set_option autoImplicit false
/-! DL: caught(lambda: work): the error that some work raises, or None -/
namespace DL
open PySem PySem.Spec PyProof.Rows L2 LamX
/-- what a lambda's body may see of its maker's slots: values -/
def hide1 : Option Slot → Option Slot
  | some (.val d) => some (.val d)
  | _ => none
def hide (env : Env) : Env := env.map hide1
variable {S : Type}
/-- the lambda's reading, from the ground at its entry -/
def tLb (C : Cc S) (τ : Env → M S D) (E : XK) : TE := fun σ H Q => ∃ G, tE (fxOf C G H E) τ σ H Q
theorem pe_lb {X : Cx} {C : Cc S} {τ : Env → M S D} {E : XK} {e : Expr} (h : ∀ G H : Hp, PE X e (tE (fxOf C G H E) τ)) : PE X e (tLb C τ E) := ⟨fun pins s σ H Q I ⟨G, q⟩ => (h G H).run pins s σ H Q I q⟩
theorem hide_at {env : Env} {i : Nat} {sl : Option Slot} (h : (hide env)[i]? = some sl) : ∃ s0, env[i]? = some s0 ∧ sl = hide1 s0 := by
  unfold hide at h
  rw [List.getElem?_map] at h
  cases q : env[i]? with
  | none => rw [q] at h; cases h
  | some s0 => rw [q] at h; cases h; exact ⟨s0, rfl, rfl⟩
theorem hide_own {env : Env} {i : Nat} : ¬ isOwn (hide env)[i]? := fun h => by
  cases q : (hide env)[i]? with
  | none => rw [q] at h; exact h
  | some sl =>
    rw [q] at h
    obtain ⟨s0, _, rfl⟩ := hide_at q
    match s0 with
    | none => exact h
    | some (.val _) => exact h
    | some (.own _) => exact h
    | some (.obj _ _) => exact h
theorem repEnv_hide {F : Fx S} {G H : Hp} {E : XK} {σ : L2.St} {env : Env} (r : RepEnv F G H σ env) : RepEnv (fxOf F.toCc G H E) G H σ (hide env) :=
  ⟨by unfold hide; rw [List.length_map]; exact r.len, fun i sl h => by
    obtain ⟨s0, h0, rfl⟩ := hide_at h
    obtain ⟨o, ho, q⟩ := r.at_ i s0 h0
    refine ⟨o, ho, ?_⟩
    match s0, q with
    | none, _ => trivial
    | some (.val d), q => exact q
    | some (.own _), _ => trivial
    | some (.obj _ _), _ => trivial, fun i j _ h => (hide_own h).elim⟩
section
variable {X : Cx} {F : Fx S}
/-- the world is told with the tables T -/
structure TabW (F : Fx S) (T : List (Addr × Str)) : Prop where
  at_ : ∀ s H, F.rep s H → Tabs T H
  put : ∀ s H H1, F.rep s H → ExtN H H1 → Tabs T H1 → F.rep s H1
end
end DL
set_option Elab.async false
set_option linter.all false
set_option maxRecDepth 100000
set_option maxHeartbeats 4000000
set_option autoImplicit false
/-! DL: calls by keywords alone; a classmethod called of its class; a class held in a local called -/
namespace DL
open PySem PySem.Spec PyProof.Rows L2
variable {S : Type} {X : Cx} {F : Fx S}
/-! ### keywords -/
theorem dk_nil : PK X [] (tA F aNil) := ⟨fun pos pins s σ H Q I ⟨G, env, st', st, p⟩ => pk_nil.run pos pins s σ H Q I (p [] G H (Ext.refl _ _ _) st rfl)⟩
theorem dk_cons {e : Expr} {kws : List Keyword} {nm : Option Str} {kpos : Pos} {τ : Env → M S D} {υ : Env → M S (List D)} (ha : PE X e (tE F τ)) (hr : PK X kws (tA F υ)) : PK X (⟨nm, e, kpos⟩ :: kws) (tA F (aCons τ υ)) := ⟨fun pos pins s0 σ H Q I ⟨G, env, s, st, p⟩ =>
  (pk_cons ha hr).run pos pins s0 σ H Q I (by
    refine seqE st p fun d s1 v G1 H1 e1 st1 r1 p1 => ?_
    refine ⟨G1, env, s1, st1, ?_⟩
    refine (Post.bind p1).mono fun ds s2 _ q vs G2 H2 e2 st2 r2 => ?_
    exact q _ G2 H2 (e1.trans e2) st2 (RepL.cons (r1.mono e2.g) r2))⟩
/-- the values at ix -/
def perm {α : Type} (ix : List Nat) (xs : List α) : List α := ix.filterMap fun i => xs[i]?
theorem vals_get : ∀ {vs : List V} {us : List Value} (i : Nat), Vals vs us → (vs[i]? = none ∧ us[i]? = none) ∨ ∃ v u, vs[i]? = some v ∧ us[i]? = some u ∧ RelV v u
  | _, _, _, .nil => .inl ⟨by simp, by simp⟩
  | _, _, 0, .cons r _ => .inr ⟨_, _, rfl, rfl, r⟩
  | _, _, i + 1, .cons _ q => by simpa using vals_get i q
theorem vals_perm {vs : List V} {us : List Value} (r : Vals vs us) : ∀ ix : List Nat, Vals (perm ix vs) (perm ix us)
  | [] => .nil
  | i :: ix => by
    unfold perm
    rcases vals_get i r with ⟨h1, h2⟩ | ⟨v, u, h1, h2, q⟩
    · rw [List.filterMap_cons_none h1, List.filterMap_cons_none h2]; exact vals_perm r ix
    · rw [List.filterMap_cons_some h1, List.filterMap_cons_some h2]; exact .cons q (vals_perm r ix)
theorem RepL.perm {C : Cc S} {G : Hp} {ds : List D} {vs : List V} (r : RepL C G ds vs) : ∀ ix : List Nat, RepL C G (DL.perm ix ds) (DL.perm ix vs)
  | [] => rfl
  | i :: ix => by
    unfold DL.perm
    cases h : ds[i]? with
    | none =>
      have h2 : vs[i]? = none := by
        rw [List.getElem?_eq_none_iff] at h ⊢
        rw [r.length]; exact h
      rw [List.filterMap_cons_none h, List.filterMap_cons_none h2]; exact RepL.perm r ix
    | some d =>
      obtain ⟨v, h2, q⟩ := r.get h
      rw [List.filterMap_cons_some h, List.filterMap_cons_some h2]; exact .cons q (RepL.perm r ix)
/-- bound by keywords ks alone, behind the values first: ix tells each further parameter's keyword -/
structure KwB (K : PySem.W.Frag) (fd : FuncData) (ps : List Str) (n : Nat) (ks : List Str) (ix : List Nat) : Prop where
  to : ∀ (s : Shared) (us ws : List Value), K.In s.heap → us.length = n → ws.length = ks.length → BindsTo s fd ⟨us, ks.zip ws⟩ (ps.zip (us ++ perm ix ws))
theorem KwB.n {K : PySem.W.Frag} {fd : FuncData} {ps ks : List Str} {n : Nat} {ix : List Nat} (b : KwB K fd ps n ks ix) : KBn K fd ps n ks (fun us ws => us ++ perm ix ws) (fun vs zs => vs ++ perm ix zs) := ⟨b.to, fun r1 r2 => r1.append (vals_perm r2 ix)⟩
/-- f(k = v, ..) -/
def calK (sem : List D → M S D) (ix : List Nat) (n : Nat) (τ : Env → M S (List D)) : Env → M S D := fun env => do
  let ds ← τ env
  grd (ds.length = n ∧ (perm ix ds).length = ix.length) (sem (perm ix ds))
theorem de_callK {k nk : Nat} {f : Addr} {fd : FuncData} {ps ks : List Str} {ix : List Nat} {sem : List D → M S D} {x : Str} {p pos : Pos} {kws : List Keyword} {α : Env → M S (List D)} (G : FnOk X.prog X.w X.K X.mg X.base (L2.CX X.prog X.w) k f fd ps (spD F.toCc ix.length sem)) (tk : Takes X F.wish) (hr : Room k X.A) (hg : Gl X x) (hm : X.mg x = some (.ref f)) (hk : PySem.W.keepIn X.K (.ref f) = true) (hb : KwB X.K fd ps 0 ks ix)
    (hkw : PK X kws (tA F α)) (hnk : nk = ks.length := by rfl) (hall : (backToKw pos (keywordEach kws X.env)).all (·.1.isSome) = true := by rfl) (hks : (backToKw pos (keywordEach kws X.env)).filterMap (·.1) = ks := by rfl)
    (hdb : (x == ("__debug__" : Str)) = false := by decide) (hpl : ((backTo pos (starEach [] X.env)).any (·.1) || (backToKw pos (keywordEach kws X.env)).any (·.1.isNone)) = false := by rfl) :
    PE X (.Call (.Name x p) [] kws pos) (tE F (calK sem ix nk α)) := by
  subst hnk
  refine ⟨fun pins s σ H Q I h => ?_⟩
  refine wpAny_Call_Name_kw (ld_glob I hg hm ?_ hdb)
  obtain ⟨G0, env, s0, st, p0⟩ := h
  have h : tA F α σ H fun zs H2 => zs.length = ks.length ∧ spD F.toCc ix.length sem ([] ++ perm ix zs) H2 Q (eOf F) := seqA st p0 fun ds s1 vs G1 H1 e1 st1 r1 p1 => by
    obtain ⟨⟨hl, hl2⟩, p1⟩ := Post.grd p1
    exact ⟨by rw [r1.length]; exact hl, spD_of hl2 st1 (r1.perm ix) (p1.K1 e1)⟩
  refine PySem.W.callWith_KW0 (h₀ := X.base) I.ok.mod.kin hk hall (thn (hkw.run pos pins s σ H _ I h) fun ws s1 ⟨zs, H1, I1, rz, l2, q⟩ => ⟨I1.kIn, ?_⟩) hpl
  rw [hks]
  exact run_fnN (us := []) (vs := []) G hr hb.n (passes_F tk) I1 .nil rz rfl l2 q
/-! ### a classmethod of the class at C, told by the handle h -/
/-! ### x(..), x a local that holds the class c, told by the handle h -/
end DL
set_option Elab.async false
set_option linter.all false
set_option maxRecDepth 100000
set_option maxHeartbeats 4000000
set_option autoImplicit false
/-! DL: a law that makes lambdas: its code object and the table of it -/
namespace DL
open PySem PySem.Spec PyProof.Rows L2 LamX
section
variable {P : Program} {w : World} {K : PySem.W.Frag} {mg : Str → Option Value} {base : Heap}
/-- a def's body, its code object told -/
theorem fun_okGT {x qual : Str} {st : Stmt} {f c : Addr} {fd : FuncData} {N ps : List Str} {k : Nat} {sp : Sp} (F : Fun K x qual st f fd) (hc : fd.code = .ref c) (S : FnScope N ps (defScope st)) (len : ∀ vs H Q E, sp vs H Q E → vs.length = ps.length)
    (hbody : ∀ (A : Around) (outer : List PySem.Env) (s : Shared) (H : Hp) (vs : List V) (Q : VK) (E : XK), A.guards = some [] → Room k (A.deeper (envOfC qual (defScope st) s.heap.objs.size f (.ref c))) → sp vs H Q E →
      ∃ t, PSs (cxOf (L2.CX P w) P w K mg base N qual (defScope st) f (.ref c) A outer s H E) (defBody st) t ∧ t { nx := fun _ H' => Q .non H', rt := Q } (L2.start N vs) H) : FnG P w K mg base (L2.CX P w) (k + 1) f fd ps sp := by
  obtain ⟨oc, od, kV, doc, pm, an, cdv, ct, osl, rfl, lk, hcd⟩ := F.ex
  have hc : cdv = .ref c := hc
  subst hc
  exact ⟨len, fun A outer s H args us vs Q E hg hr e0 hb r hsp => LamX.run_ofS lk hcd S hr e0 hb r (len _ _ _ _ hsp) fun hr' => hbody A outer s H vs Q E hg hr' hsp⟩
end
/-! ### the hook: as hookB, with the law's table: empty, not in K -/
section
variable {fb : PySem.W.Frag → List Bool} {fn : List He5.DefA}
def cTl (K : PySem.W.Frag) : Addr × Addr := He.cT K ("law", none)
abbrev AlT1 : Type := He.AlD × Bool
end
theorem lam_in {S : Type} {X : Cx} {F : Fx S} {e : Expr} {τ : Env → M S D} (h : X.K = F.K → Takes X F.wish → PE X e (tE F τ)) (hK : X.K = F.K) (tk : Takes X F.wish) : PE X e (tE F τ) := h hK tk
abbrev Tl (K : PySem.W.Frag) : List (Addr × Str) := [((cTl K).2, ("law" : Str) ++ ".<locals>." ++ "<lambda>")]
/-! ### the world of the draws with tables -/
theorem tabW_draw {L : LamI} {K : PySem.W.Frag} {cad : Str → Addr} {dp wl cl : Addr} {cells : List Int} {T : List (Addr × Str)} {G H : Hp} {E : XK} : TabW (fxOf (drawCcL L K cad dp wl cl cells T) G H E) T :=
  ⟨fun _ _ h => h.2, fun s H H1 h eN hT => ⟨⟨eN _ _ h.1.d (by intro _ h; cases h), eN _ _ h.1.w (by intro _ h; cases h), eN _ _ h.1.c (by intro _ h; cases h)⟩, hT⟩⟩
end DL
set_option Elab.async false
set_option linter.all false
set_option maxRecDepth 100000
set_option maxHeartbeats 400000
set_option autoImplicit false
/-! the same with the law's table -/
namespace DL
open PySem PySem.Spec PyProof.Rows L2 LamX
end DL
set_option Elab.async false
set_option linter.all false
set_option maxRecDepth 100000
set_option maxHeartbeats 4000000
set_option autoImplicit false
/-! DL: a law of which several defs make lambdas: their code objects and the tables of these -/
namespace DL
open PySem PySem.Spec PyProof.Rows L2 LamX
section
variable {P : Program} {w : World} {K : PySem.W.Frag} {mg : Str → Option Value} {base : Heap}
abbrev tabOb : Obj := { cls := .none, data := .fields #[] }
/-- the law is called: its script and the tables are tracked -/
theorem law_callGN {mb : Str → Option Value} {CX : CXT} {k : Nat} {fa a : Addr} {ts : List (Addr × Addr)} {fd : FuncData} {x : Str} {sp : Sp} {s₁ : Shared} {vs : List Value} {ns : List Int}
    (KX : K.In s₁.heap) (hns : s₁.heap.Ns mainGlobals mg) (hb : s₁.heap.Ns builtinsNs mb) (hbb : ∀ x : Str, x ≠ "__name__" → mb x = bootBuiltins x) (hlim : s₁.heap.NoLimit) (hg : s₁.gens = #[])
    (hT : ∀ p ∈ ts, s₁.heap.get? p.2 = some tabOb) (nT : ∀ p ∈ ts, K.lookup p.2 = none) (C : ∀ p ∈ ts, PySem.W.CodeHd s₁.heap p.1 p.2)
    (hbm : ∃ (bm : Addr) (ob : Obj), mg "__builtins__" = some (.ref bm) ∧ bm ≠ builtinsNs ∧ s₁.heap.get? bm = some ob ∧ ob.cls = .type "module" ∧ ob.dict = some builtinsNs ∧ ob.data = .plain)
    (ha : s₁.heap.get? a = some { cls := .type "list", data := .seq vs.toArray }) (hi : IntsAre vs ns) (hl : ns.length ≤ sizeLine) (hr : Room k callerA)
    (F : ∀ base : Heap, K.In base → base.Ns mainGlobals mg → (∀ p ∈ ts, TabB base mg p.1 p.2) → FnG P w K mg base CX k fa fd [x] sp) (hbind : ∀ (s : Shared) (u : Value), BindsTo s fd ⟨[u], []⟩ [(x, u)])
    (hsp : ∀ H : Hp, (∀ p ∈ ts, H p.2 = some (.tbl #[])) → SqL K H a (ns.map V.int) → sp [.ref a] H (fun v _ => v = .bl true) fun _ _ _ => False)
    (hCX : ∀ H e s', CX [] H s₁ (fun _ _ _ => False) e s' → False) :
    codeAny (model P w) callerA (.call (.ref fa) ⟨[.ref a], []⟩) (fun r s' => r = .ok (.ret (.bool true)) ∧ OldK s₁.heap s'.heap ∧ s'.os = s₁.os ∧ AllBare s'.gens) s₁ := by
  have rv := vals_ints hi
  obtain ⟨TT, eTT⟩ : ∃ TT, TT = ts.map (·.2) := ⟨_, rfl⟩
  have tIn : ∀ b, b ∈ TT → ∃ p ∈ ts, p.2 = b := fun b h => by rw [eTT] at h; exact List.mem_map.mp h
  have inT : ∀ p ∈ ts, p.2 ∈ TT := fun p h => by rw [eTT]; exact List.mem_map.mpr ⟨p, h, rfl⟩
  have hTT : ∀ b ∈ TT, s₁.heap.get? b = some tabOb := fun b h => by obtain ⟨p, hp, rfl⟩ := tIn b h; exact hT p hp
  have nTT : ∀ b ∈ TT, K.lookup b = none := fun b h => by obtain ⟨p, hp, rfl⟩ := tIn b h; exact nT p hp
  have aT : a ∉ TT := fun z => by
    have := hTT a z
    rw [ha] at this
    have z' := congrArg Obj.data (Option.some.inj this)
    cases z'
  -- what is tracked: the tables; the script, unless the written part has it
  obtain ⟨H, hS, hHT, hok, hA, hZ, hK⟩ : ∃ H : Hp, SqL K H a (ns.map V.int) ∧ (∀ b ∈ TT, H b = some (.tbl #[])) ∧ HOk P w H s₁.heap ∧ (∀ b, H b ≠ none → b = a ∨ b ∈ TT) ∧ (∀ b, H b = none ∨ b ∈ TT ∨ ∃ o xs, H b = some (.frz o (.lst xs))) ∧ (H a ≠ none → K.lookup a = none) := by
    cases hk : K.lookup a with
    | some o =>
      have e := KX a o hk
      rw [ha] at e
      cases e
      refine ⟨fun b => if b ∈ TT then some (.tbl #[]) else none, .inr ⟨_, vs.toArray, _, hk, rfl, rfl, rfl, by rw [List.size_toArray, hi.length]; exact hl, by simpa using rv⟩, fun b h => if_pos h, fun b u z => ?_, fun b z => ?_, fun b => ?_, fun z => absurd (if_neg aT) z⟩
      · dsimp only at z
        by_cases e : b ∈ TT
        · rw [if_pos e] at z; cases z; exact hTT b e
        · rw [if_neg e] at z; cases z
      · by_cases e : b ∈ TT
        · exact .inr e
        · exact absurd (if_neg e) z
      · by_cases e : b ∈ TT
        · exact .inr (.inl e)
        · exact .inl (if_neg e)
    | none =>
      refine ⟨fun b => if b ∈ TT then some (.tbl #[]) else if b = a then some (.frz { cls := .type "list", data := .seq vs.toArray } (.lst (ns.map V.int))) else none, .inl (.inr ⟨_, by show (if a ∈ TT then _ else _) = _; rw [if_neg aT, if_pos rfl]⟩), fun b h => if_pos h, fun b u z => ?_, fun b z => ?_, fun b => ?_, fun _ => rfl⟩
      · dsimp only at z
        by_cases e : b ∈ TT
        · rw [if_pos e] at z; cases z; exact hTT b e
        · rw [if_neg e] at z
          by_cases e : b = a
          · subst e
            rw [if_pos rfl] at z
            cases z
            exact ⟨ha, by rw [List.length_map]; exact hl, vs, _, rv, ha⟩
          · rw [if_neg e] at z; cases z
      · by_cases e : b ∈ TT
        · exact .inr e
        · by_cases e2 : b = a
          · exact .inl e2
          · exact absurd (by show (if b ∈ TT then _ else _) = _; rw [if_neg e, if_neg e2]) z
      · by_cases e : b ∈ TT
        · exact .inr (.inl e)
        · by_cases e2 : b = a
          · exact .inr (.inr ⟨{ cls := .type "list", data := .seq vs.toArray }, ns.map V.int, by show (if b ∈ TT then _ else _) = _; rw [if_neg e, if_pos e2]⟩)
          · exact .inl (by show (if b ∈ TT then _ else _) = _; rw [if_neg e, if_neg e2])
  have base_of : ∀ {b : Addr} {o : Obj}, s₁.heap.get? b = some o → H b = none → (hidT s₁.heap H).get? b = some o := fun e n => hidT_get e n
  have noD : ∀ {b : Addr} {o : Obj}, s₁.heap.get? b = some o → (∀ vs n, o.data ≠ .seq vs n) → o.data ≠ .fields #[] → H b = none := fun {b o} e h1 h2 => by
    cases q : H b with
    | none => rfl
    | some u =>
      rcases hA b (by rw [q]; simp) with e' | e'
      · rw [e', ha] at e; cases e; exact (h1 _ _ rfl).elim
      · rw [hTT b e'] at e; cases e; exact (h2 rfl).elim
  have nsK : ∀ {b : Addr} {m : Str → Option Value}, s₁.heap.Ns b m → (hidT s₁.heap H).Ns b m := fun {b m} ⟨o, es, ep, e, d, r⟩ => ⟨o, es, ep, base_of e (noD e (fun vs n z => by rw [d] at z; cases z) fun z => by rw [d] at z; cases z), d, r⟩
  have hKb : K.In (hidT s₁.heap H) := fun b o e => base_of (KX b o e) (by
    cases q : H b with
    | none => rfl
    | some u =>
      rcases hA b (by rw [q]; simp) with e' | e'
      · subst e'
        rw [hK (by rw [q]; simp)] at e
        cases e
      · rw [nTT b e'] at e; cases e)
  have hM : L2.Mod K mg (hidT s₁.heap H) := ⟨hKb, nsK hns, ⟨mb, nsK hb, hbb⟩, let ⟨mc, h1, h2⟩ := hlim; ⟨mc, nsK h1, h2⟩⟩
  have TB : ∀ p ∈ ts, TabB (hidT s₁.heap H) mg p.1 p.2 := fun p hp => by
    refine ⟨?_, ?_, fun z => ?_⟩
    · obtain ⟨o, us, file, tf, flags, tg, inF, text, tt, e1, r1, r2, r3, r4⟩ := C p hp
      refine ⟨o, us, file, tf, flags, tg, inF, text, tt, base_of e1 (noD e1 (fun vs n z => by rw [r2] at z; cases z) fun z => ?_), r1, r2, r3, r4⟩
      rw [r2] at z
      cases z
      simp at r3
    · obtain ⟨bm, ob, b1, b2, b3, b4, b5, b6⟩ := hbm
      have nG : bm ≠ mainGlobals := fun q => by
        obtain ⟨o, es, ep, e, hd, _⟩ := hns
        rw [q, e] at b3
        cases b3
        rw [hd] at b6
        cases b6
      have nP : bm ≠ p.2 := fun q => by
        rw [q, hT p hp] at b3
        cases b3
        cases b6
      exact ⟨bm, ob, b1, b2, nG, nP, base_of b3 (noD b3 (fun vs n z => by rw [b6] at z; cases z) fun z => by rw [b6] at z; cases z), b4, b5, b6⟩
    · obtain ⟨o, es, ep, e, hd, _⟩ := hns
      rw [z, hT p hp] at e
      cases e
      cases hd
  have e0 : Env0 P w K mg (hidT s₁.heap H) callerA [] s₁ H := ⟨rfl, hM, fun b o e => of_hidT e, Nat.le_of_eq (hidT_size _ _), trivial, fun b hb => absurd (show b ∈ ([] : List Addr) from hb) (by simp), hok, .of_eq hg⟩
  refine codeAny_mono ((F _ hKb (nsK hns) TB).run callerA [] s₁ H ⟨[.ref a], []⟩ [.ref a] [.ref a] _ _ rfl hr e0 (hbind s₁ (.ref a)) (.cons rfl .nil) (hsp H (fun p hp => hHT _ (inT p hp)) hS)) fun r s' h => ?_
  match r, h with
  | .error e, h => exact (hCX H e s' h).elim
  | .ok (.ret u), ⟨v, H', os, bare, un, hok', r', q⟩ =>
    have q' : v = .bl true := q
    subst q'
    obtain rfl : u = Value.bool true := r'
    have key : ∀ b o, b ∉ TT → s₁.heap.get? b = some o → s'.heap.get? b = some o := fun b o nb e => by
      rcases hZ b with z | z | ⟨ob, xs, z⟩
      · exact un.keep b o e z (by intro z; exact absurd (show b ∈ ([] : List Addr) from z) (by simp)) (by simp)
      · exact absurd z nb
      · obtain ⟨e1, _⟩ := hok b _ z
        obtain ⟨e2, _⟩ := hok' b _ (un.frzs b ob _ z)
        rw [e] at e1
        cases e1
        exact e2
    have more : ∀ T ∈ TT, ∃ more : Array Value, s'.heap.get? T = some { cls := .none, data := .fields more } := fun T h => by
      obtain ⟨more, z⟩ := un.tbls T #[] (hHT T h)
      exact ⟨_, hok' T _ z⟩
    refine ⟨rfl, ⟨fun b o e => ?_, fun b o e => ?_⟩, os, bare⟩
    · by_cases hb : b ∈ TT
      · obtain ⟨p, hp, rfl⟩ := tIn b hb
        rw [hT p hp] at e
        cases e
        obtain ⟨m, hm⟩ := more _ hb
        exact .inr (.inl ⟨((C p hp).tab (hT p hp)).isCodeTable, rfl, #[], m, rfl, by rw [Array.empty_append]; exact hm⟩)
      · exact .inl (key b o hb e)
    · by_cases hb : b ∈ TT
      · obtain ⟨m, hm⟩ := more b hb
        exact ⟨_, hm⟩
      · exact ⟨o, key b o hb e⟩
  | .ok .next, h => exact False.elim h
  | .ok .brk, h => exact False.elim h
  | .ok .cont, h => exact False.elim h
end
theorem walk_ofGN {l : PySem.W.OpenLaw} {n k : Nat} {q : Program} {loose : List Str} {XP : (Str → Option Value) → Heap → Prop} {YP : World → Heap → Prop} {d : DefRec} {x : Str}
    (hn : l.most = some n) (hn2 : n ≤ sizeLine) (hdf : d.params.defaults = []) (hr : Room k callerA)
    (F : ∀ (w : World) (mg : Str → Option Value) (fa : Addr) (h : Heap), YP w h → h.Ns mainGlobals mg → mg d.name = some (.ref fa) →
      ∃ (K : PySem.W.Frag) (fd : FuncData) (ts : List (Addr × Addr)) (sp : Sp), K.In h ∧ (∀ p ∈ ts, h.get? p.2 = some tabOb) ∧ (∀ p ∈ ts, K.lookup p.2 = none) ∧ (∀ p ∈ ts, PySem.W.CodeHd h p.1 p.2) ∧ (∀ (s : Shared) (u : Value), BindsTo s fd ⟨[u], []⟩ [(x, u)]) ∧
        (∀ (H : Hp) (a : Addr) (ns : List Int), ns.length ≤ n → (∀ p ∈ ts, H p.2 = some (.tbl #[])) → SqL K H a (ns.map V.int) → sp [.ref a] H (fun v _ => v = .bl true) fun _ _ _ => False) ∧
        ∀ base : Heap, K.In base → base.Ns mainGlobals mg → (∀ p ∈ ts, TabB base mg p.1 p.2) → FnG l.prog w K mg base (L2.CX l.prog w) k fa fd [x] sp) :
    PySem.W.WalkO q loose XP YP l.row.toRowW d [] (fun f vs => PySem.call f vs) := by
  refine Att.attach_call hn hdf fun w s₀ s₁ mg mb fa o pm cd doc a vs ns G Y ho hd hcd hmg hobj hints hlen hg => ?_
  obtain ⟨K, fd, ts, sp, KX, hT, nT, C, hb, hsp, hF⟩ := F w mg fa _ Y G.T.g hmg
  refine law_callGN KX G.T.g G.T.b G.T.builtins G.T.nolimit hg hT nT C G.T.bmain hobj hints (Nat.le_trans hlen hn2) hr hF hb (fun H hH hS => hsp H a ns hlen hH hS) fun H e s' z => ?_
  obtain ⟨_, _, _, _, _, _, _, _, _, _, _, _, z⟩ := z
  exact z
/-! ### the hook, with the tables of some defs: empty, not in K -/
section
variable {fb : PySem.W.Frag → List Bool} {fn : List He5.DefA}
def cTn (K : PySem.W.Frag) (x : Str) : Addr × Addr := He.cT K (x, none)
structure SaysBN (fb : PySem.W.Frag → List Bool) (fn : List He5.DefA) (xs : List Str) (h : Heap) (K : PySem.W.Frag) : Prop where
  t : SaysB fb fn K
  hd : ∀ x ∈ xs, PySem.W.codeHdIn K (cTn K x).1 (cTn K x).2 = true
  out : ∀ x ∈ xs, K.lookup (cTn K x).2 = none
  empty : ∀ x ∈ xs, h.get? (cTn K x).2 = some tabOb
  nd : (xs.map fun x => (cTn K x).2).Nodup
def tabN1 (g : Addr → Option Obj) (K : PySem.W.Frag) (x : Str) : Bool := PySem.W.codeHdIn K (cTn K x).1 (cTn K x).2 && (match g (cTn K x).2 with
  | some o => He.emptyTab o
  | none => false)
def tabsN (xs : List Str) (g : Addr → Option Obj) (K : PySem.W.Frag) : Bool := xs.all (tabN1 g K) && decide ((xs.map fun x => (cTn K x).2).Nodup)
def obsBN (n : Nat) (fb : PySem.W.Frag → List Bool) (fn : List He5.DefA) (xs : List Str) (g : Addr → Option Obj) : AlT1 := (obsB fb fn (He.frT g (asF g n)), tabsN xs g (He.frT g (asF g n)))
theorem saysBN_of {xs : List Str} {as : List Addr} {h : Heap} (e : ((obsB fb fn (He.frT h.get? as), tabsN xs h.get? (He.frT h.get? as)) : AlT1) = (He5.valA fn, true)) : SaysBN fb fn xs h (He.frT h.get? as) := by
  have e1 : obsB fb fn (He.frT h.get? as) = He5.valA fn := congrArg (fun z : AlT1 => z.1) e
  have e2 : tabsN xs h.get? (He.frT h.get? as) = true := congrArg (fun z : AlT1 => z.2) e
  obtain ⟨h1, h2⟩ := He.ba e2
  have one : ∀ x ∈ xs, PySem.W.codeHdIn (He.frT h.get? as) (cTn (He.frT h.get? as) x).1 (cTn (He.frT h.get? as) x).2 = true ∧ (He.frT h.get? as).lookup (cTn (He.frT h.get? as) x).2 = none ∧ h.get? (cTn (He.frT h.get? as) x).2 = some tabOb := fun x hx => by
    obtain ⟨h1, h2⟩ := He.ba (List.all_eq_true.mp h1 x hx)
    cases q : h.get? (cTn (He.frT h.get? as) x).2 with
    | none => rw [q] at h2; cases h2
    | some o =>
      rw [q] at h2
      exact ⟨h1, He.frT_none q h2, by rw [He.emptyTab_eq h2]⟩
  exact ⟨e1, fun x hx => (one x hx).1, fun x hx => (one x hx).2.1, fun x hx => (one x hx).2.2, of_decide_eq_true h2⟩
def hookBN (n : Nat) (fb : PySem.W.Frag → List Bool) (fn : List He5.DefA) (xs : List Str) : PySem.W.Hook where
  α := AlT1
  obs := fun s => obsBN n fb fn xs s.heap.get?
  val := fun _ => (He5.valA fn, true)
  says := fun _ h => ∃ K : PySem.W.Frag, K.In h ∧ SaysBN fb fn xs h K
  of := fun _ _ e => ⟨_, He.frT_in, saysBN_of e⟩
  keeps := fun _ _ _ ⟨K, hK, c⟩ k => ⟨K, PySem.W.Frag.In.keeps hK k, c.t, c.hd, c.out, fun x hx => k _ _ (c.empty x hx), c.nd⟩
theorem obsBN_eq {n : Nat} {xs : List Str} {g : Addr → Option Obj} {s : Shared} (h : ∀ a, g a = s.heap.get? a) : obsBN n fb fn xs g = (hookBN n fb fn xs).obs s := by
  have e : g = s.heap.get? := funext h
  rw [e] <;> rfl
end
/-- a def's code object is the one told -/
theorem code_ofN {K : PySem.W.Frag} {fd : FuncData} {x y qual : Str} {st : Stmt} (F : Fun K y qual st (He.ga K x) fd) : fd.code = .ref (cTn K x).1 := by
  obtain ⟨oc, od, kV, doc, pm, an, cdv, ct, osl, e, lk, hcd⟩ := F.ex
  have hc : (cTn K x).1 = (match fd.code with
    | .ref c => c
    | _ => 0) := by
    show He.codeOf K (x, none) = _
    unfold He.codeOf
    show (match K.lookup (He.ga K x) with
      | some ⟨_, _, .func fd, _⟩ => (match fd.code with
        | .ref c => c
        | _ => 0)
      | _ => 0) = _
    rw [lk]
  have e2 : fd.code = cdv := by rw [e]
  cases cdv with
  | ref c => rw [e2] at hc ⊢; first | done | rw [hc]
  | _ => exact (Bool.false_ne_true hcd).elim
def lamQ (x : Str) : Str := x ++ ".<locals>." ++ "<lambda>"
abbrev TlN (K : PySem.W.Frag) (xs : List Str) : List (Addr × Str) := xs.map fun x => ((cTn K x).2, lamQ x)
theorem tlN_mem {K : PySem.W.Frag} {xs : List Str} {x : Str} (h : x ∈ xs) : ((cTn K x).2, lamQ x) ∈ TlN K xs := List.mem_map.mpr ⟨x, h, rfl⟩
theorem tlN_u {K : PySem.W.Frag} {xs : List Str} (nd : (xs.map fun x => (cTn K x).2).Nodup) {x : Str} (h : x ∈ xs) : ∀ p ∈ TlN K xs, p.1 = (cTn K x).2 → p.2 = lamQ x := fun p hp e => by
  obtain ⟨y, hy, rfl⟩ := List.mem_map.mp hp
  have e : (cTn K y).2 = (cTn K x).2 := e
  have inj : ∀ (l : List Str), (l.map fun x => (cTn K x).2).Nodup → ∀ a ∈ l, ∀ b ∈ l, (cTn K a).2 = (cTn K b).2 → a = b := fun l => by
    induction l with
    | nil => intro _ a ha; cases ha
    | cons z l ih =>
      intro nd a ha b hb e
      rw [List.map_cons, List.nodup_cons] at nd
      rcases List.mem_cons.mp ha with rfl | ha2
      · rcases List.mem_cons.mp hb with rfl | hb2
        · rfl
        · exact absurd (show (cTn K a).2 ∈ l.map fun x => (cTn K x).2 from List.mem_map.mpr ⟨b, hb2, e.symm⟩) nd.1
      · rcases List.mem_cons.mp hb with rfl | hb2
        · exact absurd (show (cTn K b).2 ∈ l.map fun x => (cTn K x).2 from List.mem_map.mpr ⟨a, ha2, e⟩) nd.1
        · exact ih nd.2 a ha2 b hb2 e
  rw [inj xs nd y hy x h e]
theorem tlN_nil {K : PySem.W.Frag} {xs : List Str} {H : Hp} (h : ∀ x ∈ xs, H (cTn K x).2 = some (.tbl #[])) : LamX.Tabs (TlN K xs) H := fun p hp => by
  obtain ⟨x, hx, rfl⟩ := List.mem_map.mp hp
  exact LamX.TabS.nil (h x hx)
end DL
set_option Elab.async false
set_option linter.all false
set_option maxRecDepth 100000
set_option maxHeartbeats 400000
set_option autoImplicit false
/-! DL: the body of a def that makes lambdas: its code object told -/
namespace DL
open PySem PySem.Spec PyProof.Rows L2 LamX
end DL
namespace DL
open PySem PySem.Spec PyProof.Rows L2 LamX
section
variable {fb : PySem.W.Frag → List Bool} {fn : List He5.DefA} {xs : List Str} {h : Heap} {K : PySem.W.Frag}
theorem SaysBN.t1 (c : SaysBN fb fn xs h K) : ∀ p ∈ xs.map (cTn K), h.get? p.2 = some tabOb := fun p hp => by
  obtain ⟨x, hx, rfl⟩ := List.mem_map.mp hp
  exact c.empty x hx
theorem SaysBN.t2 (c : SaysBN fb fn xs h K) : ∀ p ∈ xs.map (cTn K), K.lookup p.2 = none := fun p hp => by
  obtain ⟨x, hx, rfl⟩ := List.mem_map.mp hp
  exact c.out x hx
theorem SaysBN.t3 (c : SaysBN fb fn xs h K) (KX : K.In h) : ∀ p ∈ xs.map (cTn K), PySem.W.CodeHd h p.1 p.2 := fun p hp => by
  obtain ⟨x, hx, rfl⟩ := List.mem_map.mp hp
  exact PySem.W.codeHd_of_K KX (c.hd x hx)
end
end DL
set_option Elab.async false
set_option linter.all false
set_option maxRecDepth 100000
set_option maxHeartbeats 4000000
set_option autoImplicit false
/-! printed by tools/k23.py: tables of k23 -/
namespace DL
open PySem PySem.Spec PyProof.Rows L2
def tb_kit_xty_BadDates (cs : List Str) := tbOf [] ((["NoneType", "bool", "int", "str", "list", "tuple", "dict"] : List Str) ++ cs)
def tb_kit_xty_BadKind (cs : List Str) := tbOf [] ((["NoneType", "bool", "int", "str", "list", "tuple", "dict"] : List Str) ++ cs)
def tb_kit_xty_NoDate (cs : List Str) := tbOf [] ((["NoneType", "bool", "int", "str", "list", "tuple", "dict"] : List Str) ++ cs)
def tb_kit_xty_ValueError (cs : List Str) := tbOf [] ((["NoneType", "bool", "int", "str", "list", "tuple", "dict"] : List Str) ++ cs)
def tbx_BadDates := tbOf [("BadDates" : Str)] [("SeriesError" : Str), ("BadKind" : Str), ("NoDate" : Str)]
def tbx_BadKind := tbOf [("BadKind" : Str)] [("SeriesError" : Str), ("BadDates" : Str), ("NoDate" : Str)]
def tbx_NoDate := tbOf [("NoDate" : Str)] [("SeriesError" : Str), ("BadDates" : Str), ("BadKind" : Str)]
def tbx_ValueError := tbOf [("SeriesError" : Str), ("BadDates" : Str), ("BadKind" : Str), ("NoDate" : Str)] []
end DL
set_option Elab.async false
set_option linter.all false
set_option maxRecDepth 100000
set_option maxHeartbeats 4000000
set_option autoImplicit false
/-! printed by tools/fin.py: the top is run -/
namespace DL
open PySem PySem.Spec PyProof.Rows L2
def topS (i : Nat) : Stmt := PySem.Challenge.pw_stillstruck_k23_keys_made.main.body.getD i (.Pass ⟨0, 0, 0, 0⟩)
abbrev cs : List Str := []
abbrev s__law_mixed : Stmt := topS 23
abbrev s__law_take : Stmt := topS 24
abbrev s__law_pick : Stmt := topS 25
abbrev s__law_shuffled : Stmt := topS 26
abbrev s__law_datesX : Stmt := topS 30
abbrev s__law_kinds : Stmt := topS 31
abbrev s__law_odd : Stmt := topS 29
abbrev s__law_bent_dates : Stmt := topS 33
abbrev s__law_are_dates : Stmt := topS 32
abbrev s__law_key : Stmt := topS 28
abbrev s__law_due : Stmt := topS 34
abbrev s__law_caught : Stmt := topS 27
abbrev s__law_told : Stmt := topS 35
abbrev s_is_kind : Stmt := topS 16
abbrev s_BadKind___init__ : Stmt := inClass (topS 3) 0
abbrev s_need_kindX : Stmt := topS 17
abbrev s_is_list : Stmt := topS 7
abbrev s_is_number : Stmt := topS 6
abbrev s_are_different : Stmt := topS 8
abbrev s_are_dates : Stmt := topS 12
abbrev s_need_datesX : Stmt := topS 13
abbrev s_NoDate___init__ : Stmt := inClass (topS 4) 0
abbrev s_need_dateX : Stmt := topS 18
abbrev s_key_by : Stmt := topS 19
abbrev s_key_of : Stmt := topS 20
abbrev s__law_begun : Stmt := topS 22
abbrev s_law : Stmt := topS 36
def fbs : PySem.W.Frag → List Bool := fun K => [
  (PySem.W.excIn K (He.ga K "BadDates") He.veBase "ValueError.__new__" && PySem.W.keepIn K (.ref (He.ga K "BadDates"))),
  exmB K "SeriesError" (["BadDates", "BadKind", "NoDate"] : List Str),
  (He.Fa.free "ValueError").ok K,
  (He.Fa.free "abs").ok K,
  (He.Fa.free "all").ok K,
  (He.Fa.free "bool").ok K,
  (He.Fa.free "enumerate").ok K,
  (He.Fa.free "int").ok K,
  (He.Fa.free "isinstance").ok K,
  (He.Fa.free "len").ok K,
  (He.Fa.free "list").ok K,
  (He.Fa.free "min").ok K,
  (He.Fa.free "range").ok K,
  (He.Fa.free "repr").ok K,
  (He.Fa.free "set").ok K,
  (He.Fa.free "sorted").ok K,
  (He.Fa.free "str").ok K,
  (He.Fa.free "tuple").ok K,
  (He.Fa.glo "BadDates").ok K,
  (He.Fa.glo "BadKind").ok K,
  (He.Fa.glo "KINDS").ok K,
  (He.Fa.glo "NoDate").ok K,
  (He.Fa.glo "SeriesError").ok K,
  (He.Fa.glo "_law_are_dates").ok K,
  (He.Fa.glo "_law_begun").ok K,
  (He.Fa.glo "_law_bent_dates").ok K,
  (He.Fa.glo "_law_caught").ok K,
  (He.Fa.glo "_law_dates").ok K,
  (He.Fa.glo "_law_due").ok K,
  (He.Fa.glo "_law_key").ok K,
  (He.Fa.glo "_law_kinds").ok K,
  (He.Fa.glo "_law_mixed").ok K,
  (He.Fa.glo "_law_odd").ok K,
  (He.Fa.glo "_law_pick").ok K,
  (He.Fa.glo "_law_shuffled").ok K,
  (He.Fa.glo "_law_take").ok K,
  (He.Fa.glo "_law_told").ok K,
  (He.Fa.glo "are_dates").ok K,
  (He.Fa.glo "are_different").ok K,
  (He.Fa.glo "is_kind").ok K,
  (He.Fa.glo "is_list").ok K,
  (He.Fa.glo "is_number").ok K,
  (He.Fa.glo "key_by").ok K,
  (He.Fa.glo "key_of").ok K,
  (He.Fa.glo "need_date").ok K,
  (He.Fa.glo "need_dates").ok K,
  (He.Fa.glo "need_kind").ok K,
  tupSB K (He.ga K "KINDS") (["date", "number", "age", "left"] : List Str),
  He.eqO (PySem.W.findIn K (.ref (He.ga K "BadKind")) "__init__") (some (some (.ref (He.ma K (He.ga K "BadKind") "__init__")))),
  He.eqO (PySem.W.findIn K (.ref (He.ga K "NoDate")) "__init__") (some (some (.ref (He.ma K (He.ga K "NoDate") "__init__")))),
  (He.Fa.int "LAST_DATE" 1000).ok K,
  (He.Fa.int "MOST_DATES" 12).ok K,
  oexB K (He.ga K "BadKind"),
  oexB K (He.ga K "NoDate"),
  (decide (PySem.W.subIn K (.ref (He.ga K "BadDates")) (.type "BaseException") = some true) && decide (PySem.W.typeIn K (.ref (He.ga K "BadDates")) = some (.type "type"))),
  decide (PySem.W.typeIn K (.ref (He.ma K (He.ga K "BadKind") "__init__")) = some (.type "function")),
  decide (PySem.W.typeIn K (.ref (He.ma K (He.ga K "NoDate") "__init__")) = some (.type "function")),
  xfB K "date" (["NoDate"] : List Str),
  xfB K "kind" (["BadKind"] : List Str),
  He.eqO (PySem.W.findIn K (.ref (He.ga K "BadKind")) "kind") (some none),
  He.eqO (PySem.W.findIn K (.ref (He.ga K "NoDate")) "date") (some none),
  ([("SeriesError" : Str), ("BadDates" : Str), ("BadKind" : Str), ("NoDate" : Str)] : List Str).all (xcB K),
  kxB K (fun t => PySem.W.kitOne K t (.ref (He.ga K "BadDates"))) [("BadDates" : Str)] [("SeriesError" : Str), ("BadKind" : Str), ("NoDate" : Str)],
  kxB K (fun t => PySem.W.kitOne K t (.ref (He.ga K "BadKind"))) [("BadKind" : Str)] [("SeriesError" : Str), ("BadDates" : Str), ("NoDate" : Str)],
  kxB K (fun t => PySem.W.kitOne K t (.ref (He.ga K "NoDate"))) [("NoDate" : Str)] [("SeriesError" : Str), ("BadDates" : Str), ("BadKind" : Str)],
  kxB K (fun t => PySem.W.kitOne K t (.type "ValueError")) [("SeriesError" : Str), ("BadDates" : Str), ("BadKind" : Str), ("NoDate" : Str)] [],
  cs.all (insB K),
  kitB K cs (fun t => PySem.W.kitAny K t [.type "list", .type "tuple"]) (tb_kit_two_list_tuple cs),
  kitB K cs (fun t => PySem.W.kitOne K t (.type "bool")) (tb_kit_ty_bool cs),
  kitB K cs (fun t => PySem.W.kitOne K t (.type "int")) (tb_kit_ty_int cs),
  kitB K cs (fun t => PySem.W.kitOne K t (.type "list")) (tb_kit_ty_list cs),
  kitB K cs (fun t => PySem.W.kitOne K t (.type "str")) (tb_kit_ty_str cs),
  kitB K cs (fun t => PySem.W.kitOne K t (.ref (He.ga K "BadDates"))) (tb_kit_xty_BadDates cs),
  kitB K cs (fun t => PySem.W.kitOne K t (.ref (He.ga K "BadKind"))) (tb_kit_xty_BadKind cs),
  kitB K cs (fun t => PySem.W.kitOne K t (.ref (He.ga K "NoDate"))) (tb_kit_xty_NoDate cs),
  kitB K cs (fun t => PySem.W.kitOne K t (.type "ValueError")) (tb_kit_xty_ValueError cs),
  (He.Fa.glo "law").ok K]
def fns : List He5.DefA := [
  defA (fun K => (He.ga K "_law_mixed")) "_law_mixed" "_law_mixed" s__law_mixed,
  defA (fun K => (He.ga K "_law_take")) "_law_take" "_law_take" s__law_take,
  defA (fun K => (He.ga K "_law_pick")) "_law_pick" "_law_pick" s__law_pick,
  defA (fun K => (He.ga K "_law_shuffled")) "_law_shuffled" "_law_shuffled" s__law_shuffled,
  defA (fun K => (He.ga K "_law_dates")) "_law_dates" "_law_dates" s__law_datesX,
  defA (fun K => (He.ga K "_law_kinds")) "_law_kinds" "_law_kinds" s__law_kinds,
  defA (fun K => (He.ga K "_law_odd")) "_law_odd" "_law_odd" s__law_odd,
  defA (fun K => (He.ga K "_law_bent_dates")) "_law_bent_dates" "_law_bent_dates" s__law_bent_dates,
  defA (fun K => (He.ga K "_law_are_dates")) "_law_are_dates" "_law_are_dates" s__law_are_dates,
  defA (fun K => (He.ga K "_law_key")) "_law_key" "_law_key" s__law_key,
  defA (fun K => (He.ga K "_law_due")) "_law_due" "_law_due" s__law_due,
  defA (fun K => (He.ga K "_law_caught")) "_law_caught" "_law_caught" s__law_caught,
  defA (fun K => (He.ga K "_law_told")) "_law_told" "_law_told" s__law_told,
  defA (fun K => (He.ga K "is_kind")) "is_kind" "is_kind" s_is_kind,
  defA (fun K => (He.ma K (He.ga K "BadKind") "__init__")) "__init__" "BadKind.__init__" s_BadKind___init__,
  defA (fun K => (He.ga K "need_kind")) "need_kind" "need_kind" s_need_kindX,
  defA (fun K => (He.ga K "is_list")) "is_list" "is_list" s_is_list,
  defA (fun K => (He.ga K "is_number")) "is_number" "is_number" s_is_number,
  defA (fun K => (He.ga K "are_different")) "are_different" "are_different" s_are_different,
  defA (fun K => (He.ga K "are_dates")) "are_dates" "are_dates" s_are_dates,
  defA (fun K => (He.ga K "need_dates")) "need_dates" "need_dates" s_need_datesX,
  defA (fun K => (He.ma K (He.ga K "NoDate") "__init__")) "__init__" "NoDate.__init__" s_NoDate___init__,
  defA (fun K => (He.ga K "need_date")) "need_date" "need_date" s_need_dateX,
  defA (fun K => (He.ga K "key_by")) "key_by" "key_by" s_key_by,
  defA (fun K => (He.ga K "key_of")) "key_of" "key_of" s_key_of,
  defA (fun K => (He.ga K "_law_begun")) "_law_begun" "_law_begun" s__law_begun,
  defA (fun K => (He.ga K "law")) "law" "law" s_law]
abbrev Rw : PySem.W.OpenRow := PySem.W.OpenLaw.row PySem.Challenge.rw_stillstruck_k23_keys_made
def loose : List Str := [("__name__" : Str), ("SeriesError" : Str), ("BadDates" : Str), ("BadKind" : Str), ("NoDate" : Str), ("is_number" : Str), ("is_list" : Str), ("are_different" : Str), ("MOST_DATES" : Str), ("LAST_DATE" : Str), ("are_dates" : Str), ("need_dates" : Str), ("KINDS" : Str), ("is_kind" : Str), ("need_kind" : Str), ("need_date" : Str), ("key_by" : Str), ("key_of" : Str), ("_law_begun" : Str), ("_law_mixed" : Str), ("_law_take" : Str), ("_law_pick" : Str), ("_law_shuffled" : Str), ("_law_caught" : Str), ("_law_key" : Str), ("_law_odd" : Str), ("_law_dates" : Str), ("_law_kinds" : Str), ("_law_are_dates" : Str), ("_law_bent_dates" : Str), ("_law_due" : Str), ("_law_told" : Str)]
abbrev txs : List Str := [("law" : Str), ("_law_told" : Str)]
abbrev hk : PySem.W.Hook := hookBN 6 fbs fns txs
def ob (s : PySem.W.SharedT) : AlT1 := obsBN 6 fbs fns txs (HandSHeadRun.getT s)
theorem ob_eq (s : PySem.W.SharedT) : ob s = hk.obs s.abs := obsBN_eq (HandSHeadRun.getT_eq s)
set_option maxHeartbeats 0 in
theorem run1 (w : World) (os : OsState) : (HandSHeadRun.endF (HandSHeadRun.stepQ (HandSHeadRun.denQ HandSHeadRun.tabQ) Rw.prog w) 20000 Rw.prog w os).map (fun s => (HandSHeadRun.looksF Rw.prog (PySem.W.boot_heap w.params) s.abs, HandSHeadRun.seenQ (PySem.W.view Rw.prog [36]) loose (PySem.importedModules Rw.prog.main.body) (fun s => PySem.W.xlAt (PySem.W.view Rw.prog [36]) [] s && PySem.W.recOk Rw.toRowW.records s) s.abs)) = some ((true, PySem.W.openGood (PySem.W.view Rw.prog [36]) loose)) := by
  kernel_rfl
set_option maxHeartbeats 0 in
theorem run2 (w : World) (os : OsState) : (HandSHeadRun.endF (HandSHeadRun.stepQ (HandSHeadRun.denQ HandSHeadRun.tabQ) Rw.prog w) 20000 Rw.prog w os).map (fun s => ((ob s).1).1) = some (((hk.val w).1).1) := by
  kernel_rfl
set_option maxHeartbeats 0 in
theorem run3 (w : World) (os : OsState) : (HandSHeadRun.endF (HandSHeadRun.stepQ (HandSHeadRun.denQ HandSHeadRun.tabQ) Rw.prog w) 20000 Rw.prog w os).map (fun s => ((ob s).1).2) = some (((hk.val w).1).2) := by
  kernel_rfl
set_option maxHeartbeats 0 in
theorem run4 (w : World) (os : OsState) : (HandSHeadRun.endF (HandSHeadRun.stepQ (HandSHeadRun.denQ HandSHeadRun.tabQ) Rw.prog w) 20000 Rw.prog w os).map (fun s => (ob s).2) = some ((hk.val w).2) := by
  kernel_rfl
theorem run (w : World) : HandSHeadRun.RunEq Rw (PySem.W.view Rw.prog [36]) hk ob 20000 loose w := fun os => by
  have a1 := run1 w os
  have a2 := run2 w os
  have a3 := run3 w os
  have a4 := run4 w os
  revert a1 a2 a3 a4
  generalize (HandSHeadRun.endF (HandSHeadRun.stepQ (HandSHeadRun.denQ HandSHeadRun.tabQ) Rw.prog w) 20000 Rw.prog w os) = x
  intro a1 a2 a3 a4
  cases x with
  | none => cases a1
  | some s =>
    have a1 := Option.some.inj a1
    have a2 := Option.some.inj a2
    have a3 := Option.some.inj a3
    have a4 := Option.some.inj a4
    have b1 := congrArg Prod.fst a1
    have b2 := congrArg Prod.snd a1
    exact congrArg some (Prod.ext b1 (Prod.ext b2 (Prod.ext (Prod.ext a2 a3) a4)))
end DL
set_option Elab.async false
set_option linter.all false
set_option maxRecDepth 100000
set_option maxHeartbeats 4000000
set_option autoImplicit false
namespace DL
open PySem PySem.Spec PyProof.Rows L2 Rh
section
variable {S : Type}
/-! ### a rhythm made -/
theorem sem_dif {cs : List Str} {th : D} {lo hi : Int} {ds : List D} {s : S} (hth : th = .lst ds ∨ th = .tup ds) (hl : ds.length ≤ 4000) (h : ds.all (okD cs) = true) : (sem_are_different cs [th, .int lo, .int hi] : M S D) s = .ok (.bl (diffs lo hi ds)) s := by
  rcases hth with rfl | rfl
  · show grd _ _ s = _; rw [grd_run, if_pos ⟨hl, h⟩]; rfl
  · show grd _ _ s = _; rw [grd_run, if_pos ⟨hl, h⟩]; rfl
@[simp] theorem sFldO_run {c f : Str} {τ : Env → M S D} {fs : List (Str × D)} {env : Env} {s : S} : sFldO 0 c f τ (some (.obj c fs) :: env) s = (τ (some (.obj c fs) :: env) s).bind fun d s1 => if fs.length < 1000 then .ok (.nx (some (.obj c (putD f d fs)) :: env)) s1 else .stk := by
  show (τ _ s).bind _ = _
  congr 1; funext d s1
  show grd _ _ s1 = _
  rw [grd_run]
  by_cases h : fs.length < 1000
  · rw [if_pos ⟨rfl, h⟩, if_pos h]; rfl
  · rw [if_neg (fun z => h z.2), if_neg h]
theorem sem_ini {cs : List Str} {n : Int} {rs : List Int} {th : D} {s : S} (hth : th = .lst (rs.map .int) ∨ th = .tup (rs.map .int)) (h : wfB n rs = true ∧ n ≤ 3000 ∧ rs.length ≤ 3000) : (sem_Rhythm___init__ cs [.int n, th] : M S (List (Str × D))) s = .ok [("own_form", formD n rs)] s := by
  rcases hth with rfl | rfl
  · simp only [sem_Rhythm___init__, a2_run, onInt_run, onIntsS_lst, grd_run, if_pos h, pure_run]
  · simp only [sem_Rhythm___init__, a2_run, onInt_run, onIntsS_tup, grd_run, if_pos h, pure_run]
theorem formD_eq (n : Int) (rs : List Int) : D.ins "Rhythm" [("own_form", formD n rs)] = mkR n rs := rfl
/-- Rhythm(n, rests), from a list -/
theorem mk_rh {cs : List Str} {α : Env → M S (List D)} {env : Env} {s s1 : S} {n : Int} {rs : List Int} {th : D} (ha : α env s = .ok [.int n, th] s1) (hth : th = .lst (rs.map .int) ∨ th = .tup (rs.map .int)) (h : wfB n rs = true ∧ n ≤ 3000 ∧ rs.length ≤ 3000) :
    mk "Rhythm" (sem_Rhythm___init__ cs) [] 2 α env s = .ok (mkR n rs) s1 := by
  simp only [mk_run, ha, Res.bind_ok, List.length_cons, List.length_nil, List.append_nil, Nat.zero_add, Nat.add_zero, if_true, sem_ini hth h, formD_eq]
/-! ### its parts -/
/-! ### == -/
theorem pdL_ints (rs : List Int) : pdL (rs.map .int) = some (rs.map PyData.int) := by
  induction rs with
  | nil => rfl
  | cons r rs ih =>
    show (match pd (.int r), pdL (rs.map .int) with
      | some a, some b => some (a :: b)
      | _, _ => none) = _
    rw [ih]; rfl
theorem eqv_ints : ∀ (rs ts : List Int), PyData.eqvAll (rs.map PyData.int) (ts.map PyData.int) = decide (rs = ts)
  | [], [] => rfl
  | [], _ :: _ => rfl
  | _ :: _, [] => rfl
  | r :: rs, t :: ts => by
    show ((r == t) && PyData.eqvAll (rs.map PyData.int) (ts.map PyData.int)) = _
    rw [eqv_ints rs ts, Bool.eq_iff_iff]
    simp
theorem sem_eq {cs : List Str} {p q : Int} {rs ts : List Int} {s : S} (h : ("Rhythm" : Str) ∈ cs) : (sem_Rhythm___eq__ cs [rhD p rs, rhD q ts] : M S D) s = .ok (.bl (decide (p = q ∧ rs = ts))) s := by
  have ho : okD cs (rhD q ts) = true := by
    show (decide (("Rhythm" : Str) ∈ cs) && decide (("Rhythm" : Str) ∉ tyNames)) = true
    rw [decide_eq_true h]; decide +kernel
  have hr : isRhD (rhD q ts) = true := by show decide (("Rhythm" : Str) = "Rhythm") = true; exact decide_eq_true rfl
  simp only [sem_Rhythm___eq__, a2_run, onRh_run, grd_run, if_pos ho, if_pos hr, pure_run]
end
end DL
set_option Elab.async false
set_option linter.all false
set_option maxRecDepth 100000
set_option maxHeartbeats 4000000
set_option autoImplicit false
namespace Rh
open DL
/-! ### the least common multiple -/
theorem lcmI_eq {i j : Int} (hi : 1 ≤ i) (hj : 1 ≤ j) : lcmI i j = (Int.lcm i j : Int) := by
  have hg : (Int.gcd i j : Int) ∣ i := Int.gcd_dvd_left i j
  unfold lcmI
  rw [Int.mul_comm, ← Int.mul_ediv_assoc _ hg]
  show j * i / ((Nat.gcd i.natAbs j.natAbs : Nat) : Int) = ((Nat.lcm i.natAbs j.natAbs : Nat) : Int)
  unfold Nat.lcm
  rw [Int.natCast_ediv, Int.natCast_mul]
  have e1 : (i.natAbs : Int) = i := by omega
  have e2 : (j.natAbs : Int) = j := by omega
  rw [e1, e2, Int.mul_comm]
theorem lcmI_dvd_left {i j : Int} (hi : 1 ≤ i) (hj : 1 ≤ j) : i ∣ lcmI i j := by rw [lcmI_eq hi hj]; exact Int.dvd_lcm_left i j
theorem lcmI_dvd_right {i j : Int} (hi : 1 ≤ i) (hj : 1 ≤ j) : j ∣ lcmI i j := by rw [lcmI_eq hi hj]; exact Int.dvd_lcm_right i j
theorem lcmI_pos {i j : Int} (hi : 1 ≤ i) (hj : 1 ≤ j) : 1 ≤ lcmI i j := by
  unfold lcmI
  have hg1 : 0 < (Int.gcd i j : Int) := by
    have : 0 < Int.gcd i j := Nat.gcd_pos_of_pos_left _ (by omega)
    omega
  have hg2 : (Int.gcd i j : Int) ≤ i := Int.le_of_dvd (by omega) (Int.gcd_dvd_left i j)
  have h1 : 1 ≤ i / (Int.gcd i j : Int) := by
    rw [Int.le_ediv_iff_mul_le hg1]; omega
  have := Int.mul_le_mul h1 hj (by omega) (by omega)
  omega
theorem lcmI_least {i j c : Int} (hi : 1 ≤ i) (hj : 1 ≤ j) (hc : 1 ≤ c) (h1 : i ∣ c) (h2 : j ∣ c) : lcmI i j ∣ c := by
  rw [lcmI_eq hi hj]
  have e : ((c.toNat : Nat) : Int) = c := Int.toNat_of_nonneg (by omega)
  rw [← e] at h1 h2 ⊢
  exact Int.natCast_dvd_natCast.mpr (Int.lcm_dvd h1 h2)
/-- a day by a round, by a multiple of it -/
theorem mod_mod {d n p : Int} (h : p ∣ n) : d % n % p = d % p := Int.emod_emod_of_dvd d h
/-- rests of a common round -/
theorem wf_filter {n : Int} (hn : 1 ≤ n) (f : Int → Bool) : Wf n ((rngI 0 n).filter f) :=
  ⟨hn, fun r hr => by have := mem_rngI.mp (List.mem_filter.mp hr).1; omega, ((rngI_sorted 0 n).imp fun {a b} h => by omega : (rngI 0 n).Nodup).filter _⟩
theorem has_filter {n : Int} (hn : 1 ≤ n) (f : Int → Bool) (d : Int) : has n ((rngI 0 n).filter f) d ↔ f (d % n) = true := by
  have h0 : 0 ≤ d % n := Int.emod_nonneg _ (by omega)
  have h1 : d % n < n := Int.emod_lt_of_pos _ (by omega)
  show d % n ∈ _ ↔ _
  rw [List.mem_filter, mem_rngI]
  simp [h0, h1]
end Rh
namespace DL
open PySem PySem.Spec PyProof.Rows L2 Rh
section
variable {S : Type}
theorem sem_op {cs : List Str} {f : Bool → Bool → Bool} {p q : Int} {rs ts : List Int} {s : S} (h : okR cs p ∧ okR cs q ∧ lcmI p q ≤ 3000) : (semOp cs f [rhD p rs, rhD q ts] : M S D) s = .ok (mkR (lcmI p q) ((rngI 0 (lcmI p q)).filter fun x => f (decide (x % p ∈ rs)) (decide (x % q ∈ ts)))) s := by
  simp only [semOp, a2_run, onRh_run, grd_run, if_pos h, pure_run]
end
end DL
set_option Elab.async false
set_option linter.all false
set_option maxRecDepth 100000
set_option maxHeartbeats 4000000
set_option autoImplicit false
namespace DL
open PySem PySem.Spec PyProof.Rows L2
/-! ### what always ends, whatever is drawn -/
section
variable {S α β : Type}
def Yes (m : M S α) (P : α → Prop) : Prop := ∀ s, ∃ a s', m s = .ok a s' ∧ P a
theorem Yes.pure {a : α} {P : α → Prop} (h : P a) : Yes (Pure.pure a : M S α) P := fun s => ⟨a, s, rfl, h⟩
theorem Yes.bind {m : M S α} {f : α → M S β} {P : α → Prop} {Q : β → Prop} (h : Yes m P) (k : ∀ a, P a → Yes (f a) Q) : Yes (m >>= f) Q := fun s => by
  obtain ⟨a, s1, e, p⟩ := h s
  obtain ⟨b, s2, e2, q⟩ := k a p s1
  refine ⟨b, s2, ?_, q⟩
  show (m s).bind _ = _
  rw [e]; exact e2
theorem Yes.mono {m : M S α} {P Q : α → Prop} (h : Yes m P) (k : ∀ a, P a → Q a) : Yes m Q := fun s => by
  obtain ⟨a, s1, e, p⟩ := h s
  exact ⟨a, s1, e, k a p⟩
theorem Yes.calm {m : M S α} {P : α → Prop} (h : Yes m P) : Yes (calmM m) P := fun s => by
  obtain ⟨a, s1, e, p⟩ := h s
  exact ⟨a, s1, by unfold calmM; rw [e], p⟩
theorem Yes.of {m : M S α} {a : α} (h : ∀ s, m s = .ok a s) : Yes m (· = a) := fun s => ⟨a, s, h s, rfl⟩
/-- a loop that only goes on -/
theorem Yes.loop {γ : D → Env → M S Env} {τ : Env → M S Flw} (I : Env → Prop) : ∀ {xs : List D}, (∀ x ∈ xs, ∀ env, I env → Yes (γ x env) fun e => Yes (τ e) fun f => ∃ e', f = .nx e' ∧ I e') → ∀ {env : Env}, I env → Yes (forL γ τ xs env) fun f => ∃ e', f = .nx e' ∧ I e'
  | [], _, env, i => Yes.pure ⟨env, rfl, i⟩
  | x :: xs, h, env, i => by
    refine Yes.bind (h x List.mem_cons_self env i) fun e he => Yes.bind he ?_
    rintro f ⟨e', rfl, i'⟩
    exact Yes.loop I (xs := xs) (fun y hy => h y (List.mem_cons_of_mem _ hy)) i'
/-- a list that is picked out -/
theorem Yes.comp {γ : D → Env → M S Env} {t : Env → M S Bool} {e : Env → M S D} {env : Env} : ∀ {xs : List D}, (∀ x ∈ xs, Yes (γ x env) fun e1 => Yes (t e1) fun _ => Yes (e e1) (· = x)) → Yes (cmpL γ t e env xs) fun ys => ys.Sublist xs
  | [], _ => Yes.pure (List.Sublist.refl _)
  | x :: xs, h => by
    have ih := Yes.comp (xs := xs) (fun y hy => h y (List.mem_cons_of_mem _ hy))
    refine Yes.bind (h x List.mem_cons_self) fun e1 he => Yes.bind he fun b hb => ?_
    cases b with
    | true => exact Yes.bind hb fun y hy => Yes.bind ih fun ys hys => Yes.pure (by subst hy; exact hys.cons_cons _)
    | false => exact Yes.mono ih fun ys hys => hys.cons _
/-- a list of what is drawn -/
theorem Yes.list {γ : D → Env → M S Env} {e : Env → M S D} {env : Env} (P : D → Prop) : ∀ {xs : List D}, (∀ x ∈ xs, Yes (γ x env) fun e1 => Yes (e e1) P) → Yes (cmpL γ tYs e env xs) fun ys => ys.length = xs.length ∧ ∀ y ∈ ys, P y
  | [], _ => Yes.pure ⟨rfl, by simp⟩
  | x :: xs, h => by
    have ih := Yes.list P (xs := xs) (fun y hy => h y (List.mem_cons_of_mem _ hy))
    refine Yes.bind (h x List.mem_cons_self) fun e1 he => Yes.bind (P := (· = true)) (fun s => ⟨true, s, rfl, rfl⟩) fun b hb => ?_
    subst hb
    exact Yes.bind he fun y hy => Yes.bind ih fun ys hys => Yes.pure ⟨by simp [hys.1], by
      intro z hz
      rcases List.mem_cons.mp hz with rfl | hz
      · exact hy
      · exact hys.2 z hz⟩
theorem Yes.runB {rd : Env → M S Flw} {N : List Str} {ds : List D} {P : D → Prop} (h : Yes (rd (startE N ds)) fun f => ∃ d, f = .rt d ∧ P d) : Yes (runB rd N ds) P := fun s => by
  obtain ⟨a, s1, e, d, rfl, p⟩ := h s
  exact ⟨d, s1, by unfold DL.runB; rw [e], p⟩
theorem Yes.seq {a b : Env → M S Flw} {env : Env} {I : Env → Prop} {Q : Flw → Prop} (h : Yes (a env) fun f => ∃ e, f = .nx e ∧ I e) (k : ∀ e, I e → Yes (b e) Q) : Yes (sSeq a b env) Q := fun s => by
  obtain ⟨f, s1, e, e', rfl, i⟩ := h s
  obtain ⟨g, s2, e2, q⟩ := k e' i s1
  refine ⟨g, s2, ?_, q⟩
  rw [sSeq_run, e]; exact e2
theorem Yes.set {τ : Env → M S D} {env : Env} {i : Nat} {P : D → Prop} (h : Yes (τ env) P) : Yes (sAsg τ (gNm i) env) fun f => ∃ e, f = .nx e ∧ ∃ d, P d ∧ e = env.set i (some (.val d)) := fun s => by
  obtain ⟨d, s1, e, p⟩ := h s
  exact ⟨_, s1, by rw [sAsg_run, e]; rfl, _, rfl, d, p, rfl⟩
theorem Yes.ret {τ : Env → M S D} {env : Env} {P : D → Prop} (h : Yes (τ env) P) : Yes (sRet τ env) fun f => ∃ d, f = .rt d ∧ P d := fun s => by
  obtain ⟨d, s1, e, p⟩ := h s
  exact ⟨_, s1, by rw [sRet_run, e]; rfl, d, rfl, p⟩
theorem Yes.if_ {t : Env → M S Bool} {a b : Env → M S Flw} {env : Env} {P : Bool → Prop} {Q : Flw → Prop} (h : Yes (t env) P) (k : P true → Yes (a env) Q) (k' : P false → Yes (b env) Q) : Yes (sIf t a b env) Q := fun s => by
  obtain ⟨c, s1, e, p⟩ := h s
  cases c with
  | true => obtain ⟨g, s2, e2, q⟩ := k p s1; exact ⟨g, s2, by rw [sIf_run, e]; exact e2, q⟩
  | false => obtain ⟨g, s2, e2, q⟩ := k' p s1; exact ⟨g, s2, by rw [sIf_run, e]; exact e2, q⟩
theorem Yes.bin {f : D → D → M S D} {τ υ : Env → M S D} {env : Env} {P Q R : D → Prop} (h : Yes (τ env) P) (h' : Yes (υ env) Q) (k : ∀ x y, P x → Q y → Yes (f x y) R) : Yes (DL.bin f τ υ env) R :=
  Yes.bind h fun x hx => Yes.bind h' fun y hy => k x y hx hy
theorem Yes.asT {τ : Env → M S D} {env : Env} {P : Bool → Prop} (h : Yes (τ env) fun d => ∃ b, d = .bl b ∧ P b) : Yes (DL.asT τ env) P := fun s => by
  obtain ⟨d, s1, e, b, rfl, p⟩ := h s
  exact ⟨b, s1, by rw [asT_run, e]; rfl, p⟩
theorem Yes.cal {sem : List D → M S D} {n : Nat} {l : Env → M S (List D)} {env : Env} {P : List D → Prop} {Q : D → Prop} (h : Yes (l env) fun ds => ds.length = n ∧ P ds) (k : ∀ ds, P ds → Yes (sem ds) Q) : Yes (DL.cal sem [] n l env) Q := fun s => by
  obtain ⟨ds, s1, e, hl, p⟩ := h s
  obtain ⟨d, s2, e2, q⟩ := k ds p s1
  exact ⟨d, s2, by rw [cal_run, e]; simp [hl, e2], q⟩
end
/-! ### whole numbers -/
section
variable {S : Type} {env : Env} {τ υ : Env → M S D}
def IntE (τ : Env → M S D) (env : Env) (P : Int → Prop) : Prop := Yes (τ env) fun d => ∃ v, d = .int v ∧ P v
theorem IntE.c {i : Int} {P : Int → Prop} (h : P i) : IntE (rC (.int i) : Env → M S D) env P := fun s => ⟨_, s, rfl, i, rfl, h⟩
theorem IntE.var {i : Nat} {v : Int} {P : Int → Prop} (e : env[i]? = some (some (.val (.int v)))) (h : P v) : IntE (rVar i : Env → M S D) env P := fun s => ⟨_, s, rVar_run e, v, rfl, h⟩
theorem IntE.op {C : Int → Int → Prop} [∀ i j, Decidable (C i j)] {g : Int → Int → Int} {P Q R : Int → Prop} (h : IntE τ env P) (h' : IntE υ env Q) (k : ∀ i j, P i → Q j → C i j ∧ R (g i j)) : IntE (bin (intOp C fun i j => .int (g i j)) τ υ) env R :=
  Yes.bin h h' (by
    rintro x y ⟨i, rfl, hi⟩ ⟨j, rfl, hj⟩ s
    obtain ⟨c, r⟩ := k i j hi hj
    exact ⟨_, s, by rw [intOp_run, if_pos c], _, rfl, r⟩)
theorem IntE.add {P Q R : Int → Prop} (h : IntE τ env P) (h' : IntE υ env Q) (k : ∀ i j, P i → Q j → R (i + j)) : IntE (bin addD τ υ) env R :=
  Yes.bin h h' (by
    rintro x y ⟨i, rfl, hi⟩ ⟨j, rfl, hj⟩ s
    exact ⟨_, s, addD_int, _, rfl, k i j hi hj⟩)
theorem IntE.int1 {P : Int → Prop} (h : IntE τ env P) : IntE (bcl int1D (aCons τ aNil)) env P := fun s => by
  obtain ⟨d, s1, e, v, rfl, p⟩ := h s
  exact ⟨.int v, s1, by rw [bcl_run, aCons_run, e]; rfl, v, rfl, p⟩
theorem IntE.set {i : Nat} {P : Int → Prop} (h : IntE τ env P) : Yes (sAsg τ (gNm i) env) fun f => ∃ e, f = .nx e ∧ ∃ v, P v ∧ e = env.set i (some (.val (.int v))) := Yes.mono (Yes.set h) (by
  rintro _ ⟨e, rfl, d, ⟨v, rfl, p⟩, rfl⟩
  exact ⟨_, rfl, v, p, rfl⟩)
/-- a test of two whole numbers -/
theorem IntE.eq {P Q : Int → Prop} {neg : Bool} (h : IntE τ env P) (h' : IntE υ env Q) : Yes (asT (bin (eqD neg) τ υ) env) fun b => ∃ i j, P i ∧ Q j ∧ b = (if neg then !(i == j) else (i == j)) :=
  Yes.asT (Yes.bin h h' (by
    rintro x y ⟨i, rfl, hi⟩ ⟨j, rfl, hj⟩ s
    exact ⟨_, s, eqD_int, _, rfl, i, j, hi, hj, rfl⟩))
end
section
variable {s : DrS} {τ υ : Env → M DrS D}
@[simp] theorem drwGet_run {f : DrS → D} {es : Env} : drwGet f (rVar 0) (some (.val (.hnd 0)) :: es) s = .ok (f s) s := rfl
@[simp] theorem drwSet_run {f : Int → DrS → DrS} {es : Env} : drwSet f τ (rVar 0) (some (.val (.hnd 0)) :: es) s = (τ (some (.val (.hnd 0)) :: es) s).bind fun d s1 => onInt (fun i => fun s2 => .ok (.nx (some (.val (.hnd 0)) :: es)) (f i s2)) d s1 := rfl
@[simp] theorem iCl_run {cells : List Int} {es : Env} {f : DrS → D} (h : f s = .hnd 2) : iCl cells (drwGet f (rVar 0)) (some (.val (.hnd 0)) :: es) s = .ok (cells.map .int) s := by
  unfold iCl
  show (drwGet f (rVar 0) (some (.val (.hnd 0)) :: es) s).bind _ = _
  rw [drwGet_run, h]; rfl
theorem IntE.put {f : Int → DrS → DrS} {es : Env} {P : Int → Prop} (h : IntE τ (some (.val (.hnd 0)) :: es) P) : Yes (drwSet f τ (rVar 0) (some (.val (.hnd 0)) :: es)) fun g => ∃ e, g = .nx e ∧ e = some (.val (.hnd 0)) :: es := fun s => by
  obtain ⟨d, s1, e, v, rfl, p⟩ := h s
  exact ⟨_, _, by rw [drwSet_run, e]; rfl, _, rfl, rfl⟩
theorem IntE.turn {es : Env} : IntE (drwGet (fun s => .int s.turn) (rVar 0)) (some (.val (.hnd 0)) :: es) fun _ => True := fun s => ⟨_, s, rfl, _, rfl, trivial⟩
theorem IntE.left {es : Env} : IntE (drwGet (fun s => .int s.left) (rVar 0)) (some (.val (.hnd 0)) :: es) fun _ => True := fun s => ⟨_, s, rfl, _, rfl, trivial⟩
theorem mixed_ok (cells : List Int) : Yes (sem__law_mixed cells [.hnd 0]) fun d => ∃ v, d = .int v ∧ True := by
  refine Yes.runB ?_
  show Yes (rd__law_mixed cells [some (.val (.hnd 0)), none, none, none, none, none]) _
  unfold rd__law_mixed
  refine Yes.seq (IntE.set (IntE.add (R := fun _ => True) IntE.turn (IntE.c (P := fun _ => True) trivial) fun _ _ _ _ => trivial)) ?_
  rintro _ ⟨t, -, rfl⟩
  refine Yes.seq (IntE.put (IntE.var (P := fun _ => True) rfl trivial)) ?_
  rintro _ rfl
  refine Yes.seq (IntE.set (IntE.c (P := fun _ => True) trivial)) ?_
  rintro _ ⟨f0, -, rfl⟩
  refine Yes.seq (I := fun e => ∃ (f : Int) (x y z : Option Slot), e = [some (.val (.hnd 0)), some (.val (.int t)), some (.val (.int f)), x, y, z]) ?_ ?_
  · show Yes (sFor _ _ _ _) _
    refine Yes.bind (P := (· = [D.int 2147483629, .int 2147483587, .int 2147483579, .int 2147483563])) (fun s => ⟨_, s, by simp [sizeLine_eq], rfl⟩) fun ds hd => ?_
    subst hd
    refine Yes.loop _ ?_ ⟨f0, none, none, none, rfl⟩
    rintro x hx _ ⟨f, a, b, c, rfl⟩
    obtain ⟨p, rfl, hp⟩ : ∃ p : Int, x = .int p ∧ 0 < p ∧ p < 2147483648 := by
      simp only [List.mem_cons, List.not_mem_nil, or_false] at hx
      rcases hx with rfl | rfl | rfl | rfl <;> exact ⟨_, rfl, by decide⟩
    refine Yes.mono (Yes.of fun s => gNm_run) ?_
    rintro _ rfl
    show Yes (sSeq _ _ [some (.val (.hnd 0)), some (.val (.int t)), some (.val (.int f)), some (.val (.int p)), b, c]) _
    have md : ∀ i j : Int, True → j = p → 0 < j ∧ (0 ≤ i % j ∧ i % j < 2147483648) := fun i j _ hj => by
      subst hj
      exact ⟨hp.1, Int.emod_nonneg _ (by omega), by have := Int.emod_lt_of_pos i hp.1; omega⟩
    refine Yes.seq (IntE.set (IntE.op (R := fun v => 0 ≤ v ∧ v < 2147483648) (IntE.int1 (IntE.add (R := fun _ => True) (IntE.op (P := fun _ => True) (Q := fun j => j = 69621) (R := fun _ => True) (IntE.var rfl trivial) (IntE.c rfl) fun i j _ hj => ⟨.inr (by subst hj; decide), trivial⟩) (IntE.op (P := fun _ => True) (Q := fun j => j = 7) (R := fun _ => True) (IntE.var rfl trivial) (IntE.c rfl) fun i j _ hj => ⟨by subst hj; exact ⟨by decide, by decide⟩, trivial⟩) fun _ _ _ _ => trivial)) (IntE.var (P := fun j => j = p) rfl rfl) md)) ?_
    rintro _ ⟨v, hv, rfl⟩
    refine Yes.seq (I := fun e => ∃ (v : Int) (z : Option Slot), (0 ≤ v ∧ v < 2147483648) ∧ e = [some (.val (.hnd 0)), some (.val (.int t)), some (.val (.int f)), some (.val (.int p)), some (.val (.int v)), z]) ?_ ?_
    · show Yes (sFor _ _ _ _) _
      refine Yes.bind (P := (· = cells.map D.int)) (fun s => ⟨_, s, iCl_run rfl, rfl⟩) fun ds hd => ?_
      subst hd
      refine Yes.loop _ ?_ ⟨v, c, hv, rfl⟩
      rintro x hx _ ⟨w, z, hw, rfl⟩
      obtain ⟨n, -, rfl⟩ := List.mem_map.mp hx
      refine Yes.mono (Yes.of fun s => gNm_run) ?_
      rintro _ rfl
      refine Yes.mono (IntE.set (IntE.op (R := fun v => 0 ≤ v ∧ v < 2147483648) (IntE.int1 (IntE.add (R := fun _ => True) (IntE.op (P := fun _ => True) (Q := fun j => j = 48271) (R := fun _ => True) (IntE.var rfl trivial) (IntE.c rfl) fun i j _ hj => ⟨.inr (by subst hj; decide), trivial⟩) (IntE.var (P := fun _ => True) rfl trivial) fun _ _ _ _ => trivial)) (IntE.var (P := fun j => j = p) rfl rfl) md)) ?_
      rintro _ ⟨e, rfl, u, hu, rfl⟩
      exact ⟨_, rfl, u, _, hu, rfl⟩
    · rintro _ ⟨w, z, hw, rfl⟩
      refine Yes.mono (IntE.set (IntE.add (R := fun _ => True) (IntE.op (P := fun _ => True) (Q := fun j => j = 2147483647) (R := fun _ => True) (IntE.var rfl trivial) (IntE.c rfl) fun i j _ hj => ⟨.inr (by subst hj; decide), trivial⟩) (IntE.op (R := fun v => 0 ≤ v ∧ v < 2147483648) (IntE.int1 (IntE.op (P := fun i => i = w) (Q := fun j => j = 5) (R := fun _ => True) (IntE.var rfl rfl) (IntE.c rfl) fun i j hi hj => ⟨⟨by omega, by omega, by subst hi; omega⟩, trivial⟩)) (IntE.var (P := fun j => j = p) rfl rfl) md) fun _ _ _ _ => trivial)) ?_
      rintro _ ⟨e, rfl, u, hu, rfl⟩
      exact ⟨_, rfl, u, _, _, _, rfl⟩
  · rintro _ ⟨f, x, y, z, rfl⟩
    exact Yes.ret (IntE.var rfl trivial)
theorem args2 {S : Type} {τ υ : Env → M S D} {env : Env} {P Q : D → Prop} (h : Yes (τ env) P) (h' : Yes (υ env) Q) : Yes (aCons τ (aCons υ aNil) env) fun ds => ds.length = 2 ∧ ∃ x y, ds = [x, y] ∧ P x ∧ Q y :=
  Yes.bind h fun x hx => Yes.bind (P := fun ds => ∃ y, ds = [y] ∧ Q y) (Yes.bind h' fun y hy => Yes.bind (P := (· = [])) (fun s => ⟨[], s, rfl, rfl⟩) fun l hl => Yes.pure ⟨y, by rw [hl], hy⟩) fun ds hd => by
    obtain ⟨y, rfl, hy⟩ := hd
    exact Yes.pure ⟨rfl, x, y, rfl, hx, hy⟩
theorem args1 {S : Type} {τ : Env → M S D} {env : Env} {P : D → Prop} (h : Yes (τ env) P) : Yes (aCons τ aNil env) fun ds => ds.length = 1 ∧ ∃ x, ds = [x] ∧ P x :=
  Yes.bind h fun x hx => Yes.bind (P := (· = [])) (fun s => ⟨[], s, rfl, rfl⟩) fun l hl => Yes.pure (by subst hl; exact ⟨rfl, x, rfl, hx⟩)
theorem take_ok (cells : List Int) {many : Int} (h : 0 < many) (h' : many < 1073741824) : Yes (sem__law_take cells [.hnd 0, .int many]) fun d => ∃ v, d = .int v ∧ (0 ≤ v ∧ v < many) := by
  refine Yes.runB ?_
  show Yes (rd__law_take cells [some (.val (.hnd 0)), some (.val (.int many)), none]) _
  unfold rd__law_take
  refine Yes.seq (I := fun e => e = [some (.val (.hnd 0)), some (.val (.int many)), none]) ?_ ?_
  · intro s
    rw [sIf_run, andT_run, asT_run, bin_run, drwGet_run, Res.bind_ok, rC_run, Res.bind_ok, eqD_int, Res.bind_ok]
    by_cases hl : s.left = 0
    · cases hw : s.wide with
      | nil => exact ⟨_, s, by simp [hl, neW, hw], _, rfl, rfl⟩
      | cons w ws => exact ⟨_, _, by simp [hl, neW, hw, popW]; rfl, _, rfl, rfl⟩
    · exact ⟨_, s, by simp [hl], _, rfl, rfl⟩
  rintro _ rfl
  refine Yes.seq (I := fun e => e = [some (.val (.hnd 0)), some (.val (.int many)), none]) ?_ ?_
  · refine Yes.if_ (IntE.eq IntE.left (IntE.c (P := fun _ => True) trivial)) (fun _ => ?_) fun _ => fun s => ⟨_, s, rfl, _, rfl, rfl⟩
    refine IntE.put (P := fun _ => True) (Yes.cal (args1 (P := (· = .hnd 0)) fun s => ⟨_, s, rfl, rfl⟩) ?_)
    rintro _ ⟨_, rfl, rfl⟩
    exact mixed_ok cells
  rintro _ rfl
  refine Yes.seq (IntE.set (IntE.op (R := fun v => 0 ≤ v ∧ v < many) (IntE.int1 IntE.left) (IntE.var (P := fun j => j = many) rfl rfl) fun i j _ hj => ⟨by omega, by subst hj; exact ⟨Int.emod_nonneg _ (by omega), Int.emod_lt_of_pos i h⟩⟩)) ?_
  rintro _ ⟨v, hv, rfl⟩
  refine Yes.seq (IntE.put (IntE.op (R := fun _ => True) IntE.left (IntE.var (P := fun j => j = many) rfl rfl) fun i j _ hj => ⟨⟨by omega, by omega⟩, trivial⟩)) ?_
  rintro _ rfl
  exact Yes.ret (IntE.var rfl hv)
theorem take_in {cells : List Int} {env : Env} {τ : Env → M DrS D} {i : Nat} {many : Int} (e : env[i]? = some (some (.val (.hnd 0)))) (ht : IntE τ env (· = many)) (h : 0 < many) (h' : many < 1073741824) : IntE (cal (sem__law_take cells) [] 2 (aCons (rVar i) (aCons τ aNil))) env fun v => 0 ≤ v ∧ v < many :=
  Yes.cal (args2 (P := (· = .hnd 0)) (fun s => ⟨_, s, rVar_run e, rfl⟩) ht) (by
    rintro _ ⟨x, y, rfl, rfl, v, rfl, rfl⟩
    exact take_ok cells h h')
theorem pick_ok (cells : List Int) {ds : List D} (h : 0 < ds.length) (h' : ds.length ≤ 100000000) : Yes (sem__law_pick cells [.hnd 0, .lst ds]) fun d => d ∈ ds := by
  refine Yes.runB ?_
  show Yes (rd__law_pick cells [some (.val (.hnd 0)), some (.val (.lst ds))]) _
  unfold rd__law_pick
  refine Yes.ret (Yes.bin (P := (· = .lst ds)) (fun s => ⟨_, s, rfl, rfl⟩) (take_in (many := (ds.length : Int)) rfl (fun s => ⟨_, s, rfl, _, rfl, rfl⟩) (by omega) (by omega)) ?_)
  rintro x y rfl ⟨v, rfl, h1, h2⟩ s
  have hv : v.toNat < ds.length := by omega
  refine ⟨ds[v.toNat], s, ?_, List.getElem_mem hv⟩
  show (match atI ds v with
    | some x => pure x
    | none => stk : M DrS D) s = _
  have : atI ds v = some ds[v.toNat] := by
    unfold atI ixN
    simp [h1, h2, hv]
  rw [this]; rfl
end
end DL
set_option Elab.async false
set_option linter.all false
set_option maxRecDepth 100000
set_option maxHeartbeats 4000000
set_option autoImplicit false
/-! printed by tools/k10.py: the readings of scripts.py as k10 reaches it -/
namespace DL
open PySem PySem.Spec PyProof.Rows L2 Rh
end DL
set_option Elab.async false
set_option linter.all false
set_option maxRecDepth 100000
set_option maxHeartbeats 4000000
set_option autoImplicit false
/-! what scripts.py is worth: steps, fates, rounds -/
namespace DL
open PySem PySem.Spec PyProof.Rows L2 Rh
/-- a plain step -/
inductive Pl where
  | shift (n : Int) | frm (n : Int) | unt (n : Int) | keep (p : Int) (rs : List Int) | strike (p : Int) (rs : List Int)
inductive Stp where
  | pl (x : Pl) | add (p : Int) (rs : List Int) (a : Int) (b : Option Int) | since (n : Int) (xs : List Pl)
def Pl.go : Pl → Int → Option Int
  | .shift n, d => some (d + n)
  | .frm n, d => if n ≤ d then some d else none
  | .unt n, d => if d ≤ n then some d else none
  | .keep p rs, d => if d % p ∈ rs then some d else none
  | .strike p rs, d => if d % p ∈ rs then none else some d
def gos {T : Type} (g : T → Int → Option Int) : List T → Option Int → Option Int
  | [], o => o
  | x :: xs, o => gos g xs (o.bind (g x))
abbrev goPs : List Pl → Option Int → Option Int := gos Pl.go
def Stp.go : Stp → Int → Option Int
  | .pl x, d => x.go d
  | .add _ _ _ _, d => some d
  | .since n xs, d => if n ≤ d then goPs xs (some d) else some d
abbrev fate : List Stp → Option Int → Option Int := gos Stp.go
section
variable {S : Type} {s : S} {cs : List Str}
theorem runB_rt {rd : Env → M S Flw} {N : List Str} {ds : List D} {d : D} {s' : S} (h : rd (startE N ds) s = .ok (.rt d) s') : runB rd N ds s = .ok d s' := by unfold runB; rw [h]
theorem gos_none {T : Type} (g : T → Int → Option Int) : ∀ xs, gos g xs none = none
  | [] => rfl
  | _ :: xs => gos_none g xs
end
end DL
set_option Elab.async false
set_option linter.all false
set_option maxRecDepth 100000
set_option maxHeartbeats 4000000
set_option autoImplicit false
/-! scripts that are made -/
namespace DL
open PySem PySem.Spec PyProof.Rows L2 Rh
def small (n : Int) : Prop := -100 ≤ n ∧ n ≤ 100
instance (n : Int) : Decidable (small n) := by unfold small; exact inferInstance
def Pl.wf : Pl → Prop
  | .shift n => small n
  | .frm n => small n
  | .unt n => small n
  | .keep p rs => Wf p rs
  | .strike p rs => Wf p rs
def optOk : Option Int → Prop
  | none => True
  | some n => small n
def Stp.wf : Stp → Prop
  | .pl x => x.wf
  | .add p rs a b => Wf p rs ∧ small a ∧ optOk b
  | .since n xs => small n ∧ xs ≠ [] ∧ ∀ x ∈ xs, x.wf
end DL
set_option Elab.async false
set_option linter.all false
set_option maxRecDepth 100000
set_option maxHeartbeats 4000000
set_option autoImplicit false
/-! scripts that are made: their steps counted, their round -/
namespace DL
open PySem PySem.Spec PyProof.Rows L2 Rh
/-- a step and those within it -/
def Stp.flat : Stp → List Stp
  | .since n xs => .since n xs :: xs.map Stp.pl
  | x => [x]
def flatS (xs : List Stp) : List Stp := xs.flatMap Stp.flat
/-- the round of a step that has a rhythm -/
def Stp.rnd : Stp → Option Int
  | .pl (.keep p _) => some p
  | .pl (.strike p _) => some p
  | .add p _ _ _ => some p
  | _ => none
def rounds (xs : List Stp) : List Int := (flatS xs).filterMap Stp.rnd
def lcmL : List Int → Int → Int
  | [], i => i
  | p :: ps, i => lcmL ps (lcmI i p)
def roundS (xs : List Stp) : Int := lcmL (rounds xs) 1
end DL
set_option Elab.async false
set_option linter.all false
set_option maxRecDepth 100000
set_option maxHeartbeats 4000000
set_option autoImplicit false
/-! scripts that are made: rounds, Script(..) -/
namespace DL
open PySem PySem.Spec PyProof.Rows L2 Rh
section
variable {S : Type} {s : S} {cs : List Str}
theorem flat_wf {xs : List Stp} (h : ∀ x ∈ xs, x.wf) : ∀ z ∈ flatS xs, z.wf := fun z hz => by
  obtain ⟨x, hx, hz⟩ := List.mem_flatMap.mp hz
  have w := h x hx
  cases x with
  | since n ys =>
    rcases List.mem_cons.mp hz with rfl | hz
    · exact w
    · obtain ⟨y, hy, rfl⟩ := List.mem_map.mp hz
      exact w.2.2 y hy
  | pl x => cases List.mem_singleton.mp hz; exact w
  | add p rs a b => cases List.mem_singleton.mp hz; exact w
end
end DL
set_option Elab.async false
set_option linter.all false
set_option maxRecDepth 100000
set_option maxHeartbeats 4000000
set_option autoImplicit false
namespace DL
open PySem PySem.Spec PyProof.Rows L2 Rh
/-! ### expressions that are a rhythm, whatever the state -/
abbrev eqOr {S : Type} (cs : List Str) : D → D → M S D := orD (opOwn "Rhythm" (sem_Rhythm___eq__ cs)) (eqD false) fun d _ => isIns d
abbrev subOr {S : Type} (cs : List Str) : D → D → M S D := orD (opOwn "Rhythm" (sem_Rhythm___sub__ cs)) subD fun d _ => isIns d
section
variable {S : Type} {env : Env} {τ υ κ : Env → M S D} {A B : Int → Prop} {L : Int} {cs : List Str}
/-- an expression that is the data d -/
def Det (τ : Env → M S D) (env : Env) (d : D) : Prop := ∀ s, τ env s = .ok d s
def DetT (t : Env → M S Bool) (env : Env) (b : Bool) : Prop := ∀ s, t env s = .ok b s
/-- a rhythm whose days are A, of a period that divides L -/
def RE (L : Int) (τ : Env → M S D) (env : Env) (A : Int → Prop) : Prop := ∃ p rs, Det τ env (rhD p rs) ∧ Can p rs ∧ (∀ x, has p rs x ↔ A x) ∧ p ∣ L
theorem Det.var {i : Nat} {d : D} (h : env[i]? = some (some (.val d))) : Det (rVar i : Env → M S D) env d := fun s => rVar_run h
theorem Det.c {d : D} : Det (rC d : Env → M S D) env d := fun s => rfl
theorem Det.bin {f : D → D → M S D} {x y z : D} (h : Det τ env x) (h' : Det υ env y) (k : ∀ s, f x y s = .ok z s) : Det (bin f τ υ) env z := fun s => by
  rw [bin_run, h s, Res.bind_ok, h' s, Res.bind_ok, k s]
theorem per_le {p m : Int} (h : p ∣ L) (hL : 1 ≤ L) (hp : 1 ≤ p) : p ≤ L := Int.le_of_dvd (by omega) h
theorem mk_can {n : Int} {rs : List Int} (w : Wf n rs) (h : n ∣ L) (hA : ∀ x, has n rs x ↔ A x) : Can (leastP n rs) (formR n rs) ∧ (∀ x, has (leastP n rs) (formR n rs) x ↔ A x) ∧ leastP n rs ∣ L :=
  ⟨form_can w, fun x => (form_has w x).trans (hA x), Int.dvd_trans (Int.dvd_of_emod_eq_zero (form_le w).2) h⟩
theorem RE.op {f : Bool → Bool → Bool} {g : D → D → M S D} (hc : ("Rhythm" : Str) ∈ cs) (hL : 1 ≤ L) (hL' : L ≤ 3000) (hg : ∀ p rs q ts s, g (rhD p rs) (rhD q ts) s = (semOp cs f [rhD p rs, rhD q ts] : M S D) s) (h : RE L τ env A) (h' : RE L υ env B)
    {C : Int → Prop} (hC : ∀ (a b : Bool) x, (a = true ↔ A x) → (b = true ↔ B x) → (f a b = true ↔ C x)) : RE L (bin g τ υ) env C := by
  obtain ⟨p, rs, d, c, e, l⟩ := h
  obtain ⟨q, ts, d', c', e', l'⟩ := h'
  have hp := per_le (m := 0) l hL c.pos
  have hq := per_le (m := 0) l' hL c'.pos
  have hm : lcmI p q ∣ L := lcmI_least c.pos c'.pos hL l l'
  have h1 := lcmI_pos c.pos c'.pos
  have h2 := per_le (m := 0) hm hL h1
  have w := wf_filter h1 fun x => f (decide (x % p ∈ rs)) (decide (x % q ∈ ts))
  obtain ⟨a1, a2, a3⟩ := mk_can (A := C) w hm fun x => by
    rw [has_filter h1]
    refine hC _ _ x ?_ ?_
    · rw [mod_mod (lcmI_dvd_left c.pos c'.pos), decide_eq_true_iff]; exact e x
    · rw [mod_mod (lcmI_dvd_right c.pos c'.pos), decide_eq_true_iff]; exact e' x
  exact ⟨_, _, Det.bin d d' fun s => by rw [hg, sem_op ⟨⟨c.pos, by omega, hc⟩, ⟨c'.pos, by omega, hc⟩, by omega⟩]; rfl, a1, a2, a3⟩
theorem own_run {sem : List D → M S D} {p q : Int} {rs ts : List Int} {s : S} : opOwn "Rhythm" sem (rhD p rs) (rhD q ts) s = sem [rhD p rs, rhD q ts] s := by
  simp only [opOwn, rhD, onIns_run, grd_run, and_self, if_true]
theorem RE.or (hc : ("Rhythm" : Str) ∈ cs) (hL : 1 ≤ L) (hL' : L ≤ 3000) (h : RE L τ env A) (h' : RE L υ env B) : RE L (bin (opOwn "Rhythm" (sem_Rhythm___or__ cs)) τ υ) env fun x => A x ∨ B x :=
  RE.op hc hL hL' (fun p rs q ts s => own_run) h h' fun a b x ha hb => by rw [Bool.or_eq_true, ha, hb]
theorem RE.and (hc : ("Rhythm" : Str) ∈ cs) (hL : 1 ≤ L) (hL' : L ≤ 3000) (h : RE L τ env A) (h' : RE L υ env B) : RE L (bin (opOwn "Rhythm" (sem_Rhythm___and__ cs)) τ υ) env fun x => A x ∧ B x :=
  RE.op hc hL hL' (fun p rs q ts s => own_run) h h' fun a b x ha hb => by rw [Bool.and_eq_true, ha, hb]
theorem RE.sub (hc : ("Rhythm" : Str) ∈ cs) (hL : 1 ≤ L) (hL' : L ≤ 3000) (h : RE L τ env A) (h' : RE L υ env B) : RE L (bin (subOr cs) τ υ) env fun x => A x ∧ ¬ B x :=
  RE.op (g := subOr cs) (f := fun a b => a && !b) hc hL hL' (fun p rs q ts s => own_run) h h' fun a b x ha hb => by rw [Bool.and_eq_true, ha, ← hb]; simp
theorem RE.mk {n : Int} {rs : List Int} {α : Env → M S (List D)} {th : D} (hn : n ≤ 3000) (hl : rs.length ≤ 3000) (w : Wf n rs) (hd : n ∣ L) (ha : ∀ s, α env s = .ok [.int n, th] s) (hth : th = .lst (rs.map .int) ∨ th = .tup (rs.map .int)) : RE L (mk "Rhythm" (sem_Rhythm___init__ cs) [] 2 α) env (has n rs) := by
  obtain ⟨a1, a2, a3⟩ := mk_can (A := has n rs) w hd fun x => Iff.rfl
  exact ⟨_, _, fun s => mk_rh (ha s) hth ⟨wfB_iff.mpr w, hn, hl⟩, a1, a2, a3⟩
theorem RE.none {n : Int} (hn : 1 ≤ n) (hn' : n ≤ 3000) : RE n (DL.mk "Rhythm" (sem_Rhythm___init__ cs) [] 2 (aCons (rC (.int n)) (aCons (lstD aNil) aNil)) : Env → M S D) env fun _ => False := by
  obtain ⟨p, rs, d, c, e, l⟩ := RE.mk (S := S) (cs := cs) (env := env) (L := n) (n := n) (rs := []) (α := aCons (rC (.int n)) (aCons (lstD aNil) aNil)) (th := .lst []) hn' (by decide) ⟨hn, by simp, List.nodup_nil⟩ (Int.dvd_refl n) (fun s => by simp) (.inl rfl)
  exact ⟨p, rs, d, c, fun x => (e x).trans (by simp), l⟩
theorem RE.eqv {M1 M2 : Int} (hc : ("Rhythm" : Str) ∈ cs) (h : RE M1 τ env A) (h' : RE M2 υ env B) : ∃ b, Det (bin (eqOr cs) τ υ) env (.bl b) ∧ (b = true ↔ ∀ x, A x ↔ B x) := by
  obtain ⟨p, rs, d, c, e, l⟩ := h
  obtain ⟨q, ts, d', c', e', l'⟩ := h'
  refine ⟨_, Det.bin d d' fun s => own_run.trans (sem_eq hc), ?_⟩
  rw [decide_eq_true_iff]
  constructor
  · rintro ⟨rfl, rfl⟩ x
    exact (e x).symm.trans (e' x)
  · intro z
    exact can_ext c c' fun x => (e x).trans ((z x).trans (e' x).symm)
/-- the period of a rhythm is that of its days -/
theorem RE.size {M1 : Int} (h : RE M1 τ env A) : ∃ p rs, Det τ env (rhD p rs) ∧ 1 ≤ p ∧ (∀ m, Per A m ↔ p ∣ m) := by
  obtain ⟨p, rs, d, c, e, l⟩ := h
  refine ⟨p, rs, d, c.pos, fun m => ⟨fun z => Int.dvd_of_emod_eq_zero (can_dvd c (z.congr fun x => (e x).symm)), ?_⟩⟩
  rintro ⟨k, rfl⟩
  exact ((per_has p rs).mul k).congr e
theorem DetT.or {t u : Env → M S Bool} (h : DetT t env false) (h' : DetT u env false) : DetT (orT t u) env false := fun s => by
  rw [orT_run, h s, Res.bind_ok, if_neg (by simp), h' s]
theorem DetT.as {b : Bool} (h : Det τ env (.bl b)) : DetT (asT τ) env b := fun s => by rw [asT_run, h s]; rfl
theorem DetT.skip {t : Env → M S Bool} {a : Env → M S Flw} (h : DetT t env false) (s : S) : sIf t a sNx env s = .ok (.nx env) s := by
  rw [sIf_run, h s]; rfl
end
end DL
set_option Elab.async false
set_option linter.all false
set_option maxRecDepth 100000
set_option maxHeartbeats 4000000
set_option autoImplicit false
/-! expressions that are a fixed datum: more of them; what repr is told of -/
namespace DL
open PySem PySem.Spec PyProof.Rows L2 Rh
section
variable {S : Type} {env : Env} {τ υ : Env → M S D} {i j k : Int} {x y z : D}
theorem Yes.det (h : Det τ env x) : Yes (τ env) (· = x) := fun s => ⟨x, s, h s, rfl⟩
theorem Yes.skip {t : Env → M S Bool} {a : Env → M S Flw} (h : DetT t env false) : Yes (sIf t a sNx env) fun f => ∃ e, f = .nx e ∧ e = env := fun s => ⟨_, s, h.skip s, env, rfl, rfl⟩
theorem Yes.seqSkip {t : Env → M S Bool} {a b : Env → M S Flw} {Q : Flw → Prop} (h : DetT t env false) (k : Yes (b env) Q) : Yes (sSeq (sIf t a sNx) b env) Q := Yes.seq (Yes.skip h) (by rintro _ rfl; exact k)
theorem Det.call1 {f : List D → M S D} (h : Det τ env x) (k : ∀ s, f [x] s = .ok z s) : Det (bcl f (aCons τ aNil)) env z := fun s => by
  rw [bcl_run, aCons_run, h s]; exact k s
theorem Det.call2 {f : List D → M S D} (h : Det τ env x) (h' : Det υ env y) (k : ∀ s, f [x, y] s = .ok z s) : Det (bcl f (aCons τ (aCons υ aNil))) env z := fun s => by
  rw [bcl_run, aCons_run, h s, Res.bind_ok, aCons_run, h' s]; exact k s
theorem Det.rng (h : Det τ env (.int j)) (hj : -(2 ^ 62) ≤ j ∧ j < 2 ^ 62) (s : S) : iR1 (aCons τ aNil) env s = .ok (rngD 0 j) s := by
  rw [iR1_run, aCons_run, h s]
  show (if -(2 ^ 62) ≤ j ∧ j < 2 ^ 62 then Res.ok (rngD 0 j) s else .stk) = _
  rw [if_pos hj]
theorem lstD_det {α : Env → M S (List D)} {ds : List D} (h : ∀ s, α env s = .ok ds s) (hl : ds.length ≤ 100 := by simp) : Det (lstD α) env (.lst ds) := fun s => by
  rw [lstD_run, h s, Res.bind_ok, if_pos (by rw [sizeLine_eq]; omega)]
theorem aNil_det (s : S) : (aNil : Env → M S (List D)) env s = .ok [] s := rfl
theorem aCons_det {α : Env → M S (List D)} {d : D} {ds : List D} (h : Det τ env d) (k : ∀ s, α env s = .ok ds s) (s : S) : aCons τ α env s = .ok (d :: ds) s := by
  rw [aCons_run, h s, Res.bind_ok, k s]; rfl
theorem Det.add (h : Det τ env (.int i)) (h' : Det υ env (.int j)) : Det (DL.bin addD τ υ) env (.int (i + j)) := Det.bin h h' fun s => addD_int
theorem Det.mul (h : Det τ env (.int i)) (h' : Det υ env (.int j)) (c : CMul i j) : Det (DL.bin mulD τ υ) env (.int (i * j)) := Det.bin h h' fun s => intOp_run.trans (if_pos c)
theorem Det.mod (h : Det τ env (.int i)) (h' : Det υ env (.int j)) (c : 0 < j) : Det (DL.bin modD τ υ) env (.int (i % j)) := Det.bin h h' fun s => intOp_run.trans (if_pos c)
theorem DetT.lt (h : Det τ env (.int i)) (h' : Det υ env (.int j)) : DetT (asT (bin ltD τ υ)) env (decide (i < j)) := DetT.as (Det.bin h h' fun s => rfl)
theorem DetT.eqI (h : Det τ env (.int i)) (h' : Det υ env (.int j)) : DetT (asT (bin (eqD false) τ υ)) env (decide (i = j)) := DetT.as (Det.bin h h' fun s => by
  rw [eqD_int]
  by_cases e : i = j <;> simp [e])
theorem DetT.chn {ω : Env → M S D} (h : Det τ env (.int i)) (h' : Det υ env (.int j)) (h2 : Det ω env (.int k)) : DetT (asT (DL.chn leD leD τ υ ω)) env (decide (i ≤ j ∧ j ≤ k)) := DetT.as fun s => by
  have e1 : (leD (.int i) (.int j) : M S D) s = .ok (.bl (decide (i ≤ j))) s := rfl
  have e2 : (leD (.int j) (.int k) : M S D) s = .ok (.bl (decide (j ≤ k))) s := rfl
  rw [chn_run, h s, Res.bind_ok, h' s, Res.bind_ok, e1, Res.bind_ok]
  by_cases e : i ≤ j
  · simp only [decide_eq_true e, h2 s, Res.bind_ok, e2]
    by_cases e3 : j ≤ k <;> simp [e, e3]
  · simp [e]
end
/-- repr is told of it, and is equal to itself -/
def Shw (item : D) : Prop := ∃ z : Str, ∀ s : DrS, (reprD [item] : M DrS D) s = .ok (.str z) s ∧ (eqD true (.str z) (.str z) : M DrS D) s = .ok (.bl false) s
theorem aCons_of {S : Type} {env : Env} {τ : Env → M S D} {α : Env → M S (List D)} {d : D} {ds : List D} {s s1 s2 : S} (h : τ env s = .ok d s1) (k : α env s1 = .ok ds s2) : aCons τ α env s = .ok (d :: ds) s2 := by
  rw [aCons_run, h, Res.bind_ok, k]; rfl
theorem lstD_of {S : Type} {env : Env} {α : Env → M S (List D)} {ds : List D} {s s1 : S} (h : α env s = .ok ds s1) (hl : ds.length ≤ 100) : lstD α env s = .ok (.lst ds) s1 := by
  rw [lstD_run, h, Res.bind_ok, if_pos (by rw [sizeLine_eq]; omega)]
theorem cal1_of {S : Type} {env : Env} {τ : Env → M S D} {sem : List D → M S D} {x z : D} {s s1 : S} (h : τ env s = .ok x s) (k : sem [x] s = .ok z s1) : cal sem [] 1 (aCons τ aNil) env s = .ok z s1 := by
  rw [cal_run, aCons_run, h]; exact k
theorem iSq_of {S : Type} {env : Env} {τ : Env → M S D} {ds : List D} {s s1 : S} (h : τ env s = .ok (.lst ds) s1) : iSq τ env s = .ok ds s1 := by
  rw [iSq_run, h]; rfl
theorem seq_of {S : Type} {env e : Env} {a b : Env → M S Flw} {s s1 : S} {r : Res S Flw} (h : a env s = .ok (.nx e) s1) (k : b e s1 = r) : sSeq a b env s = r := by
  rw [sSeq_run, h]; exact k
end DL
set_option Elab.async false
set_option linter.all false
set_option maxRecDepth 100000
set_option maxHeartbeats 4000000
set_option autoImplicit false
/-! lists of days and None; scripts made -/
namespace DL
open PySem PySem.Spec PyProof.Rows L2 Rh
/-! ### lists of days and None -/
end DL
set_option Elab.async false
set_option linter.all false
set_option maxRecDepth 100000
set_option maxHeartbeats 4000000
set_option autoImplicit false
/-! DL: defs with defaults; how keywords bind -/
namespace DL
open PySem PySem.Spec PyProof.Rows L2
section
variable {S : Type} {P : Program} {w : World} {K : PySem.W.Frag} {mg : Str → Option Value} {base : Heap} {x qual : Str} {params : Arguments} {body : List Stmt} {scope : Scope} {dvs : List V} {f : Addr} {fd : FuncData} {N ps : List Str} {k : Nat}
theorem kwB_of {st : Stmt} {ks : List Str} {n : Nat} {ix : List Nat} (F : Fun K x qual st f fd)
    (h : ∀ (kV doc pm : Value) (an : Option Addr) (cdv ct : Value) (us ws : List Value), us.length = n → ws.length = ks.length → bindArgs (PySem.W.fnOf x qual (defArgs st) (defBody st) (defScope st) .none kV doc pm an cdv ct) ⟨us, ks.zip ws⟩ = pure (ps.zip (us ++ perm ix ws))) : KwB K fd ps n ks ix := ⟨fun s us ws _ l1 l2 => by
  obtain ⟨oc, od, kV, doc, pm, an, cdv, ct, osl, rfl, lk, hcd⟩ := F.ex
  exact .of_eq (h kV doc pm an cdv ct us ws l1 l2)⟩
/-! ### facts of a class whose classmethods are called -/
theorem exmB_ok {t : Str} {xs : List Str} (h : exmB K t xs = true) : ∀ c ∈ xs, PySem.W.exmOne K (.ref (He.ga K c)) (.ref (He.ga K t)) = some true := fun c hc => of_decide_eq_true (List.all_eq_true.mp h c hc)
end
end DL
set_option Elab.async false
set_option linter.all false
set_option maxRecDepth 100000
set_option maxHeartbeats 4000000
set_option autoImplicit false
/-! DL: sorted, of a tuple of ints too -/
namespace DL
open PySem PySem.Spec PyProof.Rows L2
end DL
set_option Elab.async false
set_option linter.all false
set_option maxRecDepth 100000
set_option maxHeartbeats 4000000
set_option autoImplicit false
/-! DL: a list of one's own walked in a comprehension, added to, its greatest item; stars in displays; range downwards; x -= 1; tuples many times -/
namespace DL
open PySem PySem.Spec PyProof.Rows L2
section
variable {S : Type} {X : Cx} {F : Fx S}
/-! ### comprehensions over what stays outside the world -/
def ownD (env : Env) (i : Nat) : Option (List D) := match env[i]? with
  | some (some (.own ds)) => some ds
  | _ => none
theorem ownD_at {env : Env} {i : Nat} {ds : List D} (h : ownD env i = some ds) : env[i]? = some (some (.own ds)) := by
  unfold ownD at h
  cases q : env[i]? with
  | none => rw [q] at h; cases h
  | some o =>
    rw [q] at h
    cases o with
    | none => cases h
    | some sl =>
      cases sl with
      | own es => cases h; rfl
      | val _ => cases h
      | obj _ _ => cases h
/-! ### x = x + e, x a list of one's own -/
/-! ### max, of ints -/
def maxL : Int → List Int → Int := fun n ns => ns.foldl (fun a b => if a < b then b else a) n
/-! ### [.., *e, ..] -/
/-! ### range(a, b, -1) -/
/-! ### x -= e -/
/-! ### a, b = e, [] where b is a list of one's own -/
end
end DL
set_option Elab.async false
set_option linter.all false
set_option maxRecDepth 100000
set_option maxHeartbeats 4000000
set_option autoImplicit false
/-! DL: a tuple many times (the library's op_repT with other bounds); C() with a default -/
namespace DL
open PySem PySem.Spec PyProof.Rows L2
end DL
set_option Elab.async false
set_option linter.all false
set_option maxRecDepth 100000
set_option maxHeartbeats 4000000
set_option autoImplicit false
/-! printed by tools/k12.py: readings of fates.py -/
namespace DL
open PySem PySem.Spec PyProof.Rows L2
end DL
set_option Elab.async false
set_option linter.all false
set_option maxRecDepth 100000
set_option maxHeartbeats 4000000
set_option autoImplicit false
/-! DL: dicts of keys (all values True): comprehensions, in, not in -/
namespace DL
open PySem PySem.Spec PyProof.Rows L2
/-! ### keys as data -/
end DL
set_option Elab.async false
set_option linter.all false
set_option maxRecDepth 100000
set_option maxHeartbeats 400000
set_option autoImplicit false
/-! DL: sorted, of a list of tuples of ints -/
namespace DL
/-! ### the order, plain -/
abbrev lexL := HT.lexLt
theorem lexL_anti : ∀ xs ys : List Int, lexL xs ys = false → lexL ys xs = false → xs = ys
  | [], [], _, _ => rfl
  | [], y :: ys, h, _ => by cases h
  | x :: xs, [], _, h => by cases h
  | x :: xs, y :: ys, h1, h2 => by
    have h1 : (if x = y then lexL xs ys else decide (x < y)) = false := h1
    have h2 : (if y = x then lexL ys xs else decide (y < x)) = false := h2
    by_cases e : x = y
    · rw [if_pos e] at h1
      rw [if_pos e.symm] at h2
      rw [e, lexL_anti xs ys h1 h2]
    · rw [if_neg e] at h1
      rw [if_neg (Ne.symm e)] at h2
      have := of_decide_eq_false h1
      have := of_decide_eq_false h2
      omega
theorem lexL_irr : ∀ xs : List Int, lexL xs xs = false
  | [] => rfl
  | x :: xs => by
    show (if x = x then lexL xs xs else decide (x < x)) = false
    rw [if_pos rfl]; exact lexL_irr xs
def insL (x : List Int) : List (List Int) → List (List Int)
  | [] => [x]
  | y :: l => if lexL y x = true then y :: insL x l else x :: y :: l
def srtL : List (List Int) → List (List Int)
  | [] => []
  | x :: l => insL x (srtL l)
theorem insL_perm (x : List Int) : ∀ l, (insL x l).Perm (x :: l)
  | [] => List.Perm.refl _
  | y :: l => by
    unfold insL
    split
    · exact ((insL_perm x l).cons y).trans (List.Perm.swap x y l)
    · exact List.Perm.refl _
theorem srtL_perm : ∀ l, (srtL l).Perm l
  | [] => List.Perm.refl _
  | x :: l => (insL_perm x (srtL l)).trans ((srtL_perm l).cons x)
abbrev SrtL (l : List (List Int)) : Prop := l.Pairwise fun x y => lexL y x = false
theorem lexL_le_trans {x y z : List Int} (h1 : lexL y x = false) (h2 : lexL z y = false) : lexL z x = false := NtL.lex_tr x y z h1 h2
theorem insL_sorted (x : List Int) : ∀ {l}, SrtL l → SrtL (insL x l)
  | [], _ => List.pairwise_singleton _ _
  | y :: l, h => by
    obtain ⟨h1, h2⟩ := List.pairwise_cons.mp h
    unfold insL
    split
    · rename_i c
      refine List.pairwise_cons.mpr ⟨fun z hz => ?_, insL_sorted x h2⟩
      rcases List.mem_cons.mp ((insL_perm x l).mem_iff.mp hz) with rfl | hz
      · exact NtL.lex_asym _ _ c
      · exact h1 z hz
    · rename_i c
      have c : lexL y x = false := by simpa using c
      refine List.pairwise_cons.mpr ⟨fun z hz => ?_, h⟩
      rcases List.mem_cons.mp hz with rfl | hz
      · exact c
      · exact lexL_le_trans c (h1 z hz)
theorem srtL_sorted : ∀ l, SrtL (srtL l)
  | [] => List.Pairwise.nil
  | x :: l => insL_sorted x (srtL_sorted l)
theorem SrtL.uniq : ∀ {l m : List (List Int)}, SrtL l → SrtL m → l.Perm m → l = m
  | [], m, _, _, p => (List.Perm.eq_nil p.symm).symm
  | x :: l, [], _, _, p => by simp at p
  | x :: l, y :: m, hl, hm, p => by
    have e : x = y := by
      refine lexL_anti x y ?_ ?_
      · rcases List.mem_cons.mp (p.mem_iff.mp (List.mem_cons_self (a := x) (l := l))) with e | hx
        · rw [e]; exact lexL_irr y
        · exact (List.pairwise_cons.mp hm).1 x hx
      · rcases List.mem_cons.mp (p.mem_iff.mpr (List.mem_cons_self (a := y) (l := m))) with e | hy
        · rw [e]; exact lexL_irr x
        · exact (List.pairwise_cons.mp hl).1 y hy
    subst e
    rw [SrtL.uniq (List.pairwise_cons.mp hl).2 (List.pairwise_cons.mp hm).2 p.cons_inv]
theorem srtL_eq {l m : List (List Int)} (h : SrtL m) (p : m.Perm l) : srtL l = m := (srtL_sorted l).uniq h ((srtL_perm l).trans p.symm)
open PySem PySem.Spec PyProof.Rows L2
end DL
set_option Elab.async false
set_option linter.all false
set_option maxRecDepth 100000
set_option maxHeartbeats 400000
set_option autoImplicit false
/-! DL: new lists that are not frozen: comprehensions into slots of their own; xs[::-1] -/
namespace DL
open PySem PySem.Spec PyProof.Rows L2
section
variable {S : Type} {X : Cx} {F : Fx S}
/-- the value is a new list that nothing else holds -/
def tEw (F : Fx S) (τ : Env → M S D) : TE := fun σ H Q => ∃ G env s, StG F G σ H env s ∧
  Post F G H (τ env s) fun d s' => ∃ ds, d = .lst ds ∧ ∀ a vs G' H', Ext F.reg G H G' H' → StG F G' σ H' env s' → H' a = some (.lst vs) → G' a = none → ¬ F.reg a → H a = none → vs.length ≤ sizeLine → RepL F.toCc G' ds vs → Q (.ref a) H'
/-- a list that is not frozen and that no slot holds goes into a slot -/
theorem StG.ownAt {G0 H0 G H : Hp} {σ : L2.St} {env : Env} {s0 s : S} {ds : List D} {vs : List V} (i : Nat) (st0 : StG F G0 σ H0 env s0) (st : StG F G σ H env s) {p : Addr} (n : H0 p = none) (hp : H p = some (.lst vs)) (gp : G p = none) (nr : ¬ F.reg p) (r : RepL F.toCc G ds vs) (hz : vs.length ≤ sizeLine) :
    StG F G (σ.set i (some (.ref p))) H (env.set i (some (.own ds))) s := by
  refine ⟨st.ext, st.gd, by rw [List.length_set, List.length_set]; exact st.env_.len, fun j sl e => ?_, fun a b ne ha hb => ?_⟩
  · by_cases q : i = j
    · subst q
      have hl : i < env.length := by
        by_cases hl : i < env.length
        · exact hl
        · rw [List.set_eq_of_length_le (by omega), List.getElem?_eq_none (by omega)] at e; cases e
      rw [List.getElem?_set_self hl] at e
      cases e
      exact ⟨_, List.getElem?_set_self (by rw [st.env_.len]; exact hl), p, vs, rfl, hp, gp, nr, st0.ext.tr p n, hz, r⟩
    · rw [List.getElem?_set_ne q] at e ⊢
      exact st.env_.at_ j sl e
  · have own_ne : ∀ j : Nat, isOwn env[j]? → σ[j]? ≠ some (some (V.ref p)) := fun j hj z => by
      cases hs : env[j]? with
      | none => rw [hs] at hj; exact hj
      | some sl =>
        rw [hs] at hj
        obtain ⟨o, ho, hr⟩ := st0.env_.at_ j sl hs
        rw [ho] at z
        cases z
        cases sl with
        | none => exact hj
        | some sl =>
          cases sl with
          | val _ => exact hj
          | own _ =>
            obtain ⟨b, us, eb, hb, _⟩ := hr
            cases eb
            rw [n] at hb; cases hb
          | obj _ _ =>
            obtain ⟨b, dx, us, eb, hb, _⟩ := hr
            cases eb
            rw [n] at hb; cases hb
    have back : ∀ j : Nat, j ≠ i → isOwn (env.set i (some (.own ds)))[j]? → isOwn env[j]? := fun j hj h => by
      rw [List.getElem?_set_ne (Ne.symm hj)] at h; exact h
    by_cases ea : a = i
    · subst ea
      have hbi : b ≠ a := fun z => ne z.symm
      have hb' := back b hbi hb
      rw [List.getElem?_set_ne (Ne.symm hbi)]
      by_cases hl : a < σ.length
      · rw [List.getElem?_set_self hl]
        exact fun z => own_ne b hb' z.symm
      · rw [List.getElem?_eq_none (by rw [List.length_set]; omega)]
        intro z
        have hl' : ¬ a < env.length := by rw [← st.env_.len]; exact hl
        rw [List.set_eq_of_length_le (by omega), List.getElem?_eq_none (by omega)] at ha
        exact ha
    · have ha' := back a ea ha
      by_cases eb : b = i
      · subst eb
        rw [List.getElem?_set_ne (Ne.symm ea)]
        by_cases hl : b < σ.length
        · rw [List.getElem?_set_self hl]
          exact own_ne a ha'
        · have hl' : ¬ b < env.length := by rw [← st.env_.len]; exact hl
          rw [List.set_eq_of_length_le (by omega), List.getElem?_eq_none (by omega)] at hb
          exact hb.elim
      · rw [List.getElem?_set_ne (Ne.symm ea), List.getElem?_set_ne (Ne.symm eb)]
        exact st.env_.apart a b ne ha' (back b eb hb)
/-! ### xs[::-1] -/
end
end DL
set_option Elab.async false
set_option linter.all false
set_option maxRecDepth 100000
set_option maxHeartbeats 4000000
set_option autoImplicit false
/-! printed by tools/k22.py: readings of fates.py, stands.py -/
namespace DL
open PySem PySem.Spec PyProof.Rows L2
abbrev N_are_dates : List Str := ["thing"]
def rd_are_dates {S : Type} (cs : List Str) : Env → M S Flw :=
  (sRet (andV (cal (sem_is_list cs) [] 1 (aCons (rVar 0) aNil)) (andV (bin leD (bcl lenD (aCons (rVar 0) aNil)) (rC (.int 12))) (cal (sem_are_different cs) [] 3 (aCons (rVar 0) (aCons (rC (.int 0)) (aCons (rC (.int 1000)) aNil)))))))
def sem_are_dates {S : Type} (cs : List Str) : List D → M S D := runB (rd_are_dates cs) N_are_dates
end DL
set_option Elab.async false
set_option linter.all false
set_option maxRecDepth 100000
set_option maxHeartbeats 4000000
set_option autoImplicit false
namespace DL
open PySem PySem.Spec PyProof.Rows L2 Rh
section
variable {S : Type} {env : Env}
/-- some of range(n), as the draws will have it -/
theorem Yes.some_of {own : List Nat} {i : Nat} {t : Env → M S Bool} {τ : Env → M S D} {n : Int} (hn : 0 ≤ n) (hn' : n ≤ 3000) (h : IntE τ env (· = n)) (hi : ∀ d, ((wipeE env own).set i (some (.val d)))[i]? = some (some (.val d)))
    (ht : ∀ x : Int, 0 ≤ x → x < n → Yes (t ((wipeE env own).set i (some (.val (.int x))))) fun _ => True) :
    Yes (cmp own (iR1 (aCons τ aNil)) (gNm i) t (rVar i) env) fun d => ∃ rs : List Int, d = .lst (rs.map .int) ∧ rs.Sublist (rngI 0 n) := fun s => by
  obtain ⟨d, s1, e, v, rfl, rfl⟩ := h s
  have hc : Yes (cmpL (gNm i) t (rVar i) (wipeE env own) (rngD 0 v)) fun ys => ys.Sublist (rngD 0 v) := by
    refine Yes.comp fun x hx => ?_
    rw [rngD_eq] at hx
    obtain ⟨m, hm, rfl⟩ := List.mem_map.mp hx
    rw [mem_rngI] at hm
    refine Yes.mono (Yes.of fun s => gNm_run) ?_
    rintro _ rfl
    exact Yes.mono (ht m hm.1 hm.2) fun _ _ => Yes.of fun s => rVar_run (hi _)
  obtain ⟨ys, s2, e2, q⟩ := (Yes.calm hc) s1
  rw [rngD_eq] at q
  obtain ⟨rs, hrs, rfl⟩ := List.sublist_map_iff.mp q
  refine ⟨_, s2, ?_, rs, rfl, hrs⟩
  have hl : (rngD 0 v).length ≤ sizeLine := by rw [rngD_eq, List.length_map, rngI_length]; exact sz3 (by omega)
  rw [cmp_run, iR1_run, aCons_run, e]
  simp only [Res.bind_ok, aNil_run]
  rw [if_pos (show -(2 ^ 62) ≤ v ∧ v < 2 ^ 62 by omega), Res.bind_ok, if_pos hl, e2]
  rfl
end
end DL
set_option Elab.async false
set_option linter.all false
set_option maxRecDepth 100000
set_option maxHeartbeats 4000000
set_option autoImplicit false
/-! printed by tools/k12.py: readings of the helpers of laws over scripts -/
namespace DL
open PySem PySem.Spec PyProof.Rows L2
end DL
set_option Elab.async false
set_option linter.all false
set_option maxRecDepth 100000
set_option maxHeartbeats 4000000
set_option autoImplicit false
/-! printed by tools/k21.py: dates drawn, scripts put together -/
namespace DL
open PySem PySem.Spec PyProof.Rows L2
end DL
set_option Elab.async false
set_option linter.all false
set_option maxRecDepth 100000
set_option maxHeartbeats 4000000
set_option autoImplicit false
/-! DL: sums with a truth value at the left; tuple(x), x a list of one's own -/
namespace DL
open PySem PySem.Spec PyProof.Rows L2
end DL
set_option Elab.async false
set_option linter.all false
set_option maxRecDepth 100000
set_option maxHeartbeats 400000
set_option autoImplicit false
/-! DL: defs that return a new list; lists of one's own: insert, len, freezing; xs.count(n); own __getitem__ -/
namespace DL
open PySem PySem.Spec PyProof.Rows L2
section
variable {S : Type} {X : Cx} {F : Fx S}
/-! ### a def that returns a new list which nothing else holds -/
def FPO (F : Fx S) (G : Hp) (D : Ends) (fl : Flw) (s' : S) : Prop := match fl with
  | .rt d => ∃ es, d = .lst es ∧ ∀ a us G' H', Same G G' → Ext F.reg0 F.G0 F.H0 G' H' → Gd F.toCc G' H' s' → H' a = some (.lst us) → G' a = none → ¬ F.reg a → F.H0 a = none → us.length ≤ sizeLine → RepL F.toCc G' es us → D.rt (.ref a) H'
  | _ => False
theorem FPO.later {G G' : Hp} {D : Ends} {fl : Flw} {s' : S} (h : FPO F G D fl s') (e : Same G G') : FPO F G' D fl s' := by
  cases fl with
  | rt d =>
    obtain ⟨es, rfl, h⟩ := h
    exact ⟨es, rfl, fun a us G2 H2 q => h a us G2 H2 (e.trans q)⟩
  | _ => exact h
/-! ### x = f(..), f such a def -/
/-! ### freezing a list of one's own -/
theorem StG.frz {G H : Hp} {σ : L2.St} {env : Env} {s : S} {ds : List D} {i : Nat} (st : StG F G σ H env s) (hi : env[i]? = some (some (.own ds))) : ∃ G', Same G G' ∧ StG F G' σ H (env.set i (some (.val (.lst ds)))) s := by
  obtain ⟨a, vs, hσ, hH, hG, nr, h0, hz, rl⟩ := own_at st hi
  have ss : Same G (upd G a (.lst vs)) := fun b o hb => by rw [upd_ne (ne_of_none hb hG)]; exact hb
  have hl : i < env.length := (List.getElem?_eq_some_iff.mp hi).1
  refine ⟨upd G a (.lst vs), ss, ⟨st.ext.g.trans ss, st.ext.fr, fun b o hb => ?_, st.ext.tr⟩, st.gd.freeze hH nr, ?_⟩
  · by_cases q : b = a
    · subst q; exact .inr (.inl h0)
    · rw [upd_ne q] at hb; exact st.ext.nw b o hb
  · refine ⟨by rw [List.length_set]; exact st.env_.len, fun j sl e => ?_, fun x y ne hx hy => ?_⟩
    · by_cases q : i = j
      · subst q
        rw [List.getElem?_set_self hl] at e
        cases e
        exact ⟨_, hσ, .ref a, rfl, a, vs, rfl, upd_same, hz, rl.mono ss⟩
      · rw [List.getElem?_set_ne q] at e
        obtain ⟨o, ho, r⟩ := st.env_.at_ j sl e
        refine ⟨o, ho, ?_⟩
        cases sl with
        | none => exact trivial
        | some sl =>
          cases sl with
          | val d => obtain ⟨v, e1, r⟩ := r; exact ⟨v, e1, r.mono ss⟩
          | own es =>
            obtain ⟨b, us, e1, hb, gb, nb, b0, zb, rb⟩ := r
            have hne : b ≠ a := fun z => st.env_.apart i j q (by rw [hi]; trivial) (by rw [e]; trivial) (by rw [hσ, ho, e1, z])
            exact ⟨b, us, e1, hb, by rw [upd_ne hne]; exact gb, nb, b0, zb, rb.mono ss⟩
          | obj c fs =>
            obtain ⟨b, dx, us, e1, hb, hd, gb, gd, nb, nd, r0, b0, rb⟩ := r
            have hne : b ≠ a := fun z => by subst z; rw [hH] at hb; cases hb
            have hnd : dx ≠ a := fun z => by subst z; rw [hH] at hd; cases hd
            exact ⟨b, dx, us, e1, hb, hd, by rw [upd_ne hne]; exact gb, by rw [upd_ne hnd]; exact gd, nb, nd, r0, b0, rb.mono ss⟩
    · exact st.env_.apart x y ne (isOwn_set hx).1 (isOwn_set hy).1
/-! ### x.insert(k, y), x a list of one's own -/
/-! ### len(x), x a list of one's own -/
def lenO (i : Nat) : Env → M S D := fun env => match ownD env i with
  | some ds => pure (.int ds.length)
  | none => stk
theorem de_lenO {i : Nat} {o : Expr} {p pos : Pos} (hg : Gl X "len") (hm : X.mg "len" = none) (ho : PE X o (tVar i)) (he : starEach [o] X.env = (false, eval o X.env) :: starEach [] X.env := by rfl) (hpl : (backTo pos (starEach [] X.env)).any (·.1) = false := by rfl) : PE X (.Call (.Name "len" p) [o] [] pos) (tE F (lenO i)) :=
  pe_mono (pe_callB call_len hg hm (by decide +kernel) (pa_cons ho pa_nil he) (by decide) (by decide) he hpl) fun σ H Q ⟨G, env, s, st, p⟩ => by
    have p : Post F G H ((match ownD env i with
      | some ds => pure (.int ds.length)
      | none => stk : M S D) s) _ := p
    cases q : ownD env i with
    | none => rw [q] at p; exact p.elim
    | some ds =>
      rw [q] at p
      obtain ⟨a, vs, hσ, hH, hG, nr, h0, hz, rl⟩ := own_at st (ownD_at q)
      exact ⟨.ref a, hσ, _, _, rfl, .inl ⟨vs, .inl (.inl hH), rl.length.symm⟩, p _ G H (Ext.refl _ _ _) st rfl⟩
/-! ### xs.count(k), numbers -/
/-! ### a[i] by an own __getitem__ -/
end
end DL
set_option Elab.async false
set_option linter.all false
set_option maxRecDepth 100000
set_option maxHeartbeats 400000
set_option autoImplicit false
/-! DL: statements that always go on (no return, break, continue in them) -/
namespace DL
open PySem PySem.Spec PyProof.Rows L2
section
variable {S : Type} {X : Cx} {F : Fx S}
def NxO (τ : Env → M S Flw) : Prop := ∀ env s fl s', τ env s = .ok fl s' → ∃ e, fl = .nx e
theorem NxO.seq {τ υ : Env → M S Flw} (h : NxO τ) (h' : NxO υ) : NxO (sSeq τ υ) := fun env s fl s' q => by
  obtain ⟨f1, s1, q1, q2⟩ := bind_ok q
  obtain ⟨e, rfl⟩ := h env s f1 s1 q1
  exact h' e s1 fl s' q2
theorem NxO.nx : NxO (sNx : Env → M S Flw) := fun env s fl s' q => by cases q; exact ⟨_, rfl⟩
theorem NxO.app {i : Nat} {τ : Env → M S D} : NxO (sApp i τ) := fun env s fl s' q => by
  have q : (match env[i]? with
    | some (some (.own _)) => do
      let d ← τ env
      (match env[i]? with
      | some (some (.own ds)) => grd (ds.length < sizeLine) (pure (.nx (env.set i (some (.own (ds ++ [d]))))))
      | _ => stk)
    | _ => stk : M S Flw) s = .ok fl s' := q
  cases hi : env[i]? with
  | none => rw [hi] at q; cases q
  | some sl =>
    rw [hi] at q
    cases sl with
    | none => cases q
    | some sl =>
      cases sl with
      | val _ => cases q
      | obj _ _ => cases q
      | own ds =>
        obtain ⟨d, s1, q1, q2⟩ := bind_ok q
        by_cases hl : ds.length < sizeLine
        · have q2 : grd (ds.length < sizeLine) (pure (.nx (env.set i (some (.own (ds ++ [d])))))) s1 = Res.ok fl s' := q2
          rw [grd_pos hl] at q2
          cases q2
          exact ⟨_, rfl⟩
        · have q2 : grd (ds.length < sizeLine) (pure (.nx (env.set i (some (.own (ds ++ [d])))))) s1 = Res.ok fl s' := q2
          unfold grd at q2
          rw [if_neg hl] at q2
          cases q2
end
end DL
set_option Elab.async false
set_option linter.all false
set_option maxRecDepth 100000
set_option maxHeartbeats 400000
set_option autoImplicit false
/-! DL: dict(list of pairs), in and not in of dicts with values -/
namespace DL
open PySem PySem.Spec PyProof.Rows L2
end DL
set_option Elab.async false
set_option linter.all false
set_option maxRecDepth 100000
set_option maxHeartbeats 400000
set_option autoImplicit false
/-! DL: lists of one's own in tests; defs that return what another one made new; pairs of new lists; pop -/
namespace DL
open PySem PySem.Spec PyProof.Rows L2
section
variable {S : Type} {X : Cx} {F : Fx S}
/-! ### a test that only looks at lists of one's own -/
def frzE : List Nat → Env → Option Env
  | [], env => some env
  | i :: is, env => match ownD env i with
    | some ds => frzE is (env.set i (some (.val (.lst ds))))
    | none => none
theorem StG.frzs {H : Hp} {σ : L2.St} {s : S} : ∀ {is : List Nat} {G : Hp} {env e : Env}, StG F G σ H env s → frzE is env = some e → ∃ G', Same G G' ∧ StG F G' σ H e s
  | [], G, env, e, st, h => by cases h; exact ⟨G, Same.refl _, st⟩
  | i :: is, G, env, e, st, h => by
    unfold frzE at h
    cases q : ownD env i with
    | none => rw [q] at h; cases h
    | some ds =>
      rw [q] at h
      obtain ⟨G1, s1, st1⟩ := st.frz (ownD_at q)
      obtain ⟨G2, s2, st2⟩ := StG.frzs st1 h
      exact ⟨G2, s1.trans s2, st2⟩
theorem StG.thaw {G G1 G2 H H2 : Hp} {σ : L2.St} {env e : Env} {s s2 : S} (st : StG F G σ H env s) (ss : Same G G1) (ex : Ext F.reg G1 H G2 H2) (st2 : StG F G2 σ H2 e s2) : Ext F.reg G H G H2 ∧ StG F G σ H2 env s2 := by
  have e0 : Ext F.reg G H G H2 := ⟨fun _ _ h => h, ex.fr, fun _ _ h => .inl h, ex.tr⟩
  exact ⟨e0, st.ext' e0 ⟨fun b o h => st2.gd.gh _ _ (ex.g _ _ (ss _ _ h)), st2.gd.w, st.gd.gr, st.gd.nt⟩⟩
def vwT (is : List Nat) (t : Env → M S Bool) : Env → M S Bool := fun env => match frzE is env with
  | some e => t e
  | none => stk
theorem dt_vw {c : Expr} {is : List Nat} {t : Env → M S Bool} (h : PT X c (tT F t)) : PT X c (tT F (vwT is t)) := pt_mono h fun σ H Q ⟨G, env, s, st, p⟩ => by
  have p : Post F G H ((match frzE is env with
    | some e => t e
    | none => stk : M S Bool) s) _ := p
  cases q : frzE is env with
  | none => rw [q] at p; exact p.elim
  | some e =>
    rw [q] at p
    obtain ⟨G1, ss, st1⟩ := st.frzs q
    refine ⟨G1, e, s, st1, (p.later ss).mono fun b s1 _ hk G2 H2 ex st2 => ?_⟩
    obtain ⟨e0, st0⟩ := st.thaw ss ex st2
    exact hk G H2 e0 st0
/-! ### return f(..), return [..]: what is returned is new -/
theorem NxO.drop {τ : Env → M S D} : NxO (sDrop τ) := fun env s fl s' q => by
  obtain ⟨d, s1, q1, q2⟩ := bind_ok q
  cases q2
  exact ⟨_, rfl⟩
/-! ### list(x), [] as new lists -/
theorem de_listW {x : Str} {p pos : Pos} {e : Expr} {τ : Env → M S D} (hK : X.K = F.K) (hg : Gl X x) (hm : X.mg x = none) (hv : bootBuiltins x = some (.type "list")) (he : PE X e (tE F τ)) (hn : x ≠ "__name__" := by decide) (hdb : (x == ("__debug__" : Str)) = false := by decide)
    (hse : starEach [e] X.env = (false, eval e X.env) :: starEach [] X.env := by rfl) (hpl : (backTo pos (starEach [] X.env)).any (·.1) = false := by rfl) : PE X (.Call (.Name x p) [e] [] pos) (tEw F (bcl listD (aCons τ aNil))) :=
  pe_mono (pe_callTy call_list_of hg hm hv (pa_cons he pa_nil hse) hn hdb hse hpl) fun σ H Q ⟨G, env, s, st, p⟩ => by
    have e : (bcl listD (aCons τ aNil) env s) = (τ env s).bind fun d s1 => listD [d] s1 := by
      show ((aCons τ aNil env s).bind _) = _
      rw [aCons_run]
      cases τ env s <;> rfl
    rw [e] at p
    refine seqE st p fun d s1 v G1 H1 e1 st1 r1 p1 => ?_
    have p1 : Post F G1 H1 (listD [d] s1) _ := p1
    obtain ⟨d', hd', p2⟩ := Post.a1 p1
    cases hd'
    obtain ⟨ds, hd, p3⟩ := p2.onSeq
    obtain ⟨es, ee, hk⟩ := p3
    cases ee
    have go : ∀ a us, v = .ref a → us.length ≤ sizeLine → RepL F.toCc G1 ds us → ∀ l, H1 l = none → Q (.ref l) (upd H1 l (.lst us)) := fun a us _ z rl l nl => by
      obtain ⟨g2, e2⟩ := st1.gd.open_ nl (.lst us)
      have nrl : ¬ F.reg l := fun z => by
        obtain ⟨u, e⟩ := F.there s1 H1 l st1.gd.w z
        rw [nl] at e; cases e
      exact hk l us G1 _ (e1.trans e2) (st1.ext' e2 g2) upd_same (st1.gd.gh.free nl) nrl (e1.tr l nl) z rl
    rw [hK]
    rcases hd with rfl | rfl
    · obtain ⟨a, us, rfl, q, z, rl⟩ := r1
      exact ⟨a, us, rfl, .inl (.inl (.inl (st1.gd.gh _ _ q))), go a us rfl z rl⟩
    · obtain ⟨a, us, rfl, q, z, rl⟩ := r1
      exact ⟨a, us, rfl, .inr (SqT.sub st1.gd.gh q), go a us rfl z rl⟩
theorem de_nilW {pos : Pos} : PE X (.List [] pos) (tEw F (lstD aNil)) := pe_mono (pe_lst pa_nil) fun σ H Q ⟨G, env, s, st, p⟩ => by
  refine ⟨Nat.zero_le _, fun l nl => ?_⟩
  have e : (lstD aNil env s : Res S D) = .ok (.lst []) s := by
    exact congrFun (grd_pos (m := (pure (.lst []) : M S D)) (show ([] : List D).length ≤ sizeLine from Nat.zero_le _)) s
  rw [e] at p
  obtain ⟨es, ee, hk⟩ := p
  cases ee
  obtain ⟨g2, e2⟩ := st.gd.open_ nl (.lst [])
  have nrl : ¬ F.reg l := fun z => by
    obtain ⟨u, e⟩ := F.there s H l st.gd.w z
    rw [nl] at e; cases e
  exact hk l [] G _ e2 (st.ext' e2 g2) upd_same (st.gd.gh.free nl) nrl nl (Nat.zero_le _) rfl
/-! ### a, b = (two new lists) -/
def sOwn2 (i j : Nat) (τ υ : Env → M S D) : Env → M S Flw := fun env => do
  match ← τ env with
  | .lst ds => do
    match ← υ env with
    | .lst es => pure (.nx ((env.set i (some (.own ds))).set j (some (.own es))))
    | _ => stk
  | _ => stk
theorem ds_own2 {i j : Nat} {x y : Str} {a b : Expr} {τ υ : Env → M S D} {px py pt pos : Pos} {kt k2 pt2} (hc : X.calm = true) (hN : X.N.Nodup) (hi : X.N[i]? = some x) (hj : X.N[j]? = some y) (hij : i ≠ j)
    (hx : X.env.scope.names.lookup x = some .local) (hy : X.env.scope.names.lookup y = some .local) (ha : PE X a (tEw F τ)) (hb : PE X b (tEw F υ))
    (hw : swappedStores [.Tuple [.Name x px, .Name y py] kt pt] (.Tuple [a, b] k2 pt2) X.env = pure (some [x, y]))
    (hs : swapsWithSole [.Tuple [.Name x px, .Name y py] kt pt] (.Tuple [a, b] k2 pt2) pos.line X.env = pure false := by rfl)
    (hse : starEach [a, b] X.env = (false, eval a X.env) :: starEach [b] X.env := by rfl) (hse2 : starEach [b] X.env = (false, eval b X.env) :: starEach [] X.env := by rfl) :
    PS X (.Assign [.Tuple [.Name x px, .Name y py] kt pt] (.Tuple [a, b] k2 pt2) pos) (tS F (sOwn2 i j τ υ)) := ps_mono (ps_par hc hN hi hj hij hx hy (pa_cons ha (pa_cons hb pa_nil hse2) hse) hw hs) fun D σ H ⟨G, env, s, st, p⟩ => by
  refine ⟨G, env, s, st, (Post.bind p).mono fun d s1 _ hk => ?_⟩
  cases d with
  | lst ds =>
    refine ⟨ds, rfl, fun a vs G1 H1 e1 st1 hH hG nr hn hz rl => ?_⟩
    refine ⟨G1, env, s1, st1, ((Post.bind hk).later e1.g).mono fun d s2 _ hk => ?_⟩
    cases d with
    | lst es =>
      refine ⟨es, rfl, fun a2 vs2 G2 H2 e2 st2 hH2 hG2 nr2 hn2 hz2 rl2 => ?_⟩
      refine ⟨.ref a, .ref a2, rfl, ?_⟩
      have st3 := StG.ownAt i st st1 hn hH hG nr rl hz
      have st4 := StG.ownAt i st st2 hn (e2.fr _ _ hH nr (by intro _ h; cases h)) (e2.un hH hG nr) nr (rl.mono e2.g) hz
      exact hk _ G2 H2 (e1.g.trans e2.g) (StG.ownAt j st3 st4 hn2 hH2 hG2 nr2 rl2 hz2)
    | _ => exact hk.elim
  | _ => exact hk.elim
end
end DL
set_option Elab.async false
set_option linter.all false
set_option maxRecDepth 100000
set_option maxHeartbeats 400000
set_option autoImplicit false
/-! DL: found.append(left.pop(k)) -/
namespace DL
open PySem PySem.Spec PyProof.Rows L2
section
variable {S : Type} {X : Cx} {F : Fx S}
/-- an expression that changes slots of one's own -/
def tEE (F : Fx S) (τ : Env → M S (D × Env)) : TE := fun σ H Q => ∃ G env s, StG F G σ H env s ∧
  Post F G H (τ env s) fun r s' => ∀ v G' H', Same G G' → StG F G' σ H' r.2 s' → Rep F.toCc G' r.1 v → Q v H'
def popE (j : Nat) (κ : Env → M S D) : Env → M S (D × Env) := fun env => match ownD env j with
  | some ds => do
    match ← κ env with
    | .int k => (match ds[k.toNat]? with
      | some d => grd (0 ≤ k ∧ k < 2 ^ 62) (pure (d, env.set j (some (.own (ds.eraseIdx k.toNat)))))
      | none => stk)
    | _ => stk
  | none => stk
theorem RepL.erase {C : Cc S} {G : Hp} : ∀ {ds : List D} {vs : List V} (k : Nat), RepL C G ds vs → RepL C G (ds.eraseIdx k) (vs.eraseIdx k)
  | [], vs, k, r => by
    have e : vs = [] := r
    subst e; exact rfl
  | d :: ds, vs, 0, ⟨v, r, e, a, b⟩ => by subst e; exact b
  | d :: ds, vs, k + 1, ⟨v, r, e, a, b⟩ => by subst e; exact ⟨v, _, rfl, a, RepL.erase k b⟩
theorem de_pop {j : Nat} {o e : Expr} {κ : Env → M S D} {apos cpos : Pos} (ho : PE X o (tVar j)) (he : PE X e (tE F κ))
    (hbase : attributeBase o "pop" X.env (eval o X.env) = eval o X.env := by rfl)
    (hfew : ((backTo cpos (starEach [e] X.env)).all (fun x => !x.1) && (backToKw cpos (keywordEach [] X.env)).all (fun x => x.1.isSome)
      && decide (([e] : List Expr).length + ([] : List Keyword).length + (if ([] : List Keyword).isEmpty then 0 else 1) < 30)) = true := by rfl)
    (hline : (apos.endLine == cpos.line) = true := by rfl) (hst : starEach [e] X.env = (false, eval e X.env) :: starEach [] X.env := by rfl) :
    PE X (.Call (.Attribute o "pop" apos) [e] [] cpos) (tEE F (popE j κ)) :=
  pe_mono (pe_bm PySem.F.plainAttrs_list PySem.F.slot_list_pop PySem.F.type_list_pop (mt_popAt) ho (pa_cons he pa_nil hst) hbase hfew hline hst) fun σ H Q ⟨G, env, s, st, p⟩ => by
    have p : Post F G H ((match ownD env j with
      | some ds => do
        match ← κ env with
        | .int k => (match ds[k.toNat]? with
          | some d => grd (0 ≤ k ∧ k < 2 ^ 62) (pure (d, env.set j (some (.own (ds.eraseIdx k.toNat)))))
          | none => stk)
        | _ => stk
      | none => stk : M S (D × Env)) s) _ := p
    cases q : ownD env j with
    | none => rw [q] at p; exact p.elim
    | some ds =>
      rw [q] at p
      have hi := ownD_at q
      obtain ⟨a, vs, hσ, hH, _, _, _, _, _⟩ := own_at st hi
      refine ⟨.ref a, hσ, .inl ⟨rfl, vs, .inl (.inl hH)⟩, ?_⟩
      refine seqE st p fun d s1 v G1 H1 e1 st1 r1 p1 => ?_
      obtain ⟨a', vs1, hσ1, hH1, hG1, nr1, h01, hz1, rl1⟩ := own_at st1 hi
      rw [hσ] at hσ1
      cases hσ1
      cases d with
      | int k =>
        cases hd : ds[k.toNat]? with
        | none => simp only [hd] at p1; exact p1.elim
        | some d =>
          simp only [hd] at p1
          obtain ⟨⟨h0, h62⟩, p2⟩ := Post.grd p1
          obtain ⟨w, hw, rw_⟩ := rl1.get hd
          have hlt : k.toNat < vs1.length := (List.getElem?_eq_some_iff.mp hw).1
          obtain rfl : v = .int k := r1
          refine ⟨a, vs1, k, k.toNat, w, rfl, rfl, hH1, by omega, by omega, ?_, hw, ?_⟩
          · have hn : ¬ k < 0 := by omega
            have hl : k < (vs1.length : Int) := by omega
            simp [seqIndex?, hn, h0, hl]
          · have st2 := st1.put hi hσ (RepL.erase k.toNat rl1) (Nat.le_trans (List.length_eraseIdx_le _ _) hz1)
            exact p2 w G1 _ e1.g st2 rw_
      | _ => exact p1.elim
/-- x.append(e), e such an expression -/
def sAppE (i : Nat) (τ : Env → M S (D × Env)) : Env → M S Flw := fun env => match ownD env i with
  | some _ => do
    let r ← τ env
    (match ownD r.2 i with
    | some ds => grd (ds.length < sizeLine) (pure (.nx (r.2.set i (some (.own (ds ++ [r.1]))))))
    | none => stk)
  | none => stk
theorem ds_appE {i : Nat} {o e : Expr} {τ : Env → M S (D × Env)} {apos cpos pos : Pos} (ho : PE X o (tVar i)) (he : PE X e (tEE F τ)) (hs : swapsWith (.Call (.Attribute o "append" apos) [e] [] cpos) none pos.line X.env = pure false := by rfl)
    (hbase : attributeBase o "append" X.env (eval o X.env) = eval o X.env := by rfl)
    (hfew : ((backTo cpos (starEach [e] X.env)).all (fun x => !x.1) && (backToKw cpos (keywordEach [] X.env)).all (fun x => x.1.isSome)
      && decide (([e] : List Expr).length + ([] : List Keyword).length + (if ([] : List Keyword).isEmpty then 0 else 1) < 30)) = true := by rfl)
    (hline : (apos.endLine == cpos.line) = true := by rfl) (hst : starEach [e] X.env = (false, eval e X.env) :: starEach [] X.env := by rfl) :
    PS X (.Expr (.Call (.Attribute o "append" apos) [e] [] cpos) pos) (tS F (sAppE i τ)) :=
  ps_mono (ps_expr (pe_bm PySem.F.plainAttrs_list PySem.F.slot_list_append PySem.F.type_list_append (mt_append) ho (pa_cons he pa_nil hst) hbase hfew hline hst) hs) fun D σ H ⟨G, env, s, st, p⟩ => by
    have p : Post F G H ((match ownD env i with
      | some _ => do
        let r ← τ env
        (match ownD r.2 i with
        | some ds => grd (ds.length < sizeLine) (pure (.nx (r.2.set i (some (.own (ds ++ [r.1]))))))
        | none => stk)
      | none => stk : M S Flw) s) (FP F G D) := p
    cases q : ownD env i with
    | none => rw [q] at p; exact p.elim
    | some ds0 =>
      rw [q] at p
      obtain ⟨a, vs, hσ, hH, _, _, _, _, _⟩ := own_at st (ownD_at q)
      refine ⟨.ref a, hσ, .inl ⟨rfl, vs, .inl (.inl hH)⟩, ?_⟩
      refine ⟨G, env, s, st, (Post.bind p).mono fun r s1 _ hk v G1 H1 ss st1 r1 => ?_⟩
      have hk : Post F G H ((match ownD r.2 i with
        | some ds => grd (ds.length < sizeLine) (pure (.nx (r.2.set i (some (.own (ds ++ [r.1]))))))
        | none => stk : M S Flw) s1) (FP F G D) := hk
      cases q1 : ownD r.2 i with
      | none => rw [q1] at hk; exact hk.elim
      | some ds =>
        rw [q1] at hk
        obtain ⟨a', vs1, hσ1, hH1, hG1, nr1, h01, hz1, rl1⟩ := own_at st1 (ownD_at q1)
        rw [hσ] at hσ1
        cases hσ1
        obtain ⟨hl, p2⟩ := Post.grd hk
        have hlt : vs1.length < sizeLine := by rw [rl1.length]; exact hl
        refine ⟨a, vs1, v, rfl, rfl, hH1, hlt, ?_⟩
        exact p2 σ G1 _ ss (st1.put (ownD_at q1) hσ (rl1.append (RepL.one r1)) (by rw [List.length_append]; simp only [List.length_cons, List.length_nil]; omega))
end
end DL
set_option Elab.async false
set_option linter.all false
set_option maxRecDepth 100000
set_option maxHeartbeats 4000000
set_option autoImplicit false
/-! printed by tools/k18.py: helpers -/
namespace DL
open PySem PySem.Spec PyProof.Rows L2
abbrev N__law_shuffled : List Str := ["_law_draw", "_law_some", "_law_left", "_law_found"]
noncomputable def rd__law_shuffled (cells : List Int) : Env → M DrS Flw :=
  (sSeq (sOwn2 2 3 (bcl listD (aCons (rVar 1) aNil)) (lstD aNil)) (sSeq (sWhl (vwT [2] (asT (bin (eqD true) (rVar 2) (lstD aNil)))) (sAppE 3 (popE 2 (cal (sem__law_take cells) [] 2 (aCons (rVar 0) (aCons (lenO 2) aNil)))))) (sRetO 3)))
noncomputable def sem__law_shuffled (cells : List Int) : List D → M DrS D := runB (rd__law_shuffled cells) N__law_shuffled
end DL
set_option Elab.async false
set_option linter.all false
set_option maxRecDepth 100000
set_option maxHeartbeats 1000000
set_option autoImplicit false
/-! DL: min of a list of ints -/
namespace DL
open PySem PySem.Spec PyProof.Rows L2
def minL (n : Int) : List Int → Int
  | [] => n
  | m :: ms => minL (if m < n then m else n) ms
theorem minL_ok : ∀ (ns : List Int) (n : Int), minL n ns ≤ n ∧ (∀ y ∈ ns, minL n ns ≤ y) ∧ (minL n ns = n ∨ minL n ns ∈ ns)
  | [], n => ⟨Int.le_refl _, by simp, .inl rfl⟩
  | m :: ms, n => by
    have ih := minL_ok ms (if m < n then m else n)
    show minL (if m < n then m else n) ms ≤ n ∧ (∀ y ∈ m :: ms, minL (if m < n then m else n) ms ≤ y) ∧ (minL (if m < n then m else n) ms = n ∨ minL (if m < n then m else n) ms ∈ m :: ms)
    by_cases c : m < n
    · rw [if_pos c] at ih ⊢
      refine ⟨by omega, fun y hy => ?_, .inr ?_⟩
      · rcases List.mem_cons.mp hy with rfl | hy
        · exact ih.1
        · exact ih.2.1 y hy
      · rcases ih.2.2 with e | e
        · rw [e]; exact List.mem_cons_self
        · exact List.mem_cons_of_mem _ e
    · rw [if_neg c] at ih ⊢
      refine ⟨ih.1, fun y hy => ?_, ?_⟩
      · rcases List.mem_cons.mp hy with rfl | hy
        · omega
        · exact ih.2.1 y hy
      · rcases ih.2.2 with e | e
        · exact .inl e
        · exact .inr (List.mem_cons_of_mem _ e)
section
variable {S : Type} {X : Cx} {F : Fx S}
def minI : List D → M S D := fun ds => match intsD ds with
  | some (n :: ns) => pure (.int (minL n ns))
  | _ => stk
def minD : List D → M S D := a1 (onLst minI)
theorem cd_min (hK : X.K = F.K) : CallD F (rMin X.K) minD := fun G σ H env s ds vs Q st r p => by
  obtain ⟨d, rfl, p1⟩ := p.a1
  obtain ⟨v, rfl, rv⟩ := r.r1
  obtain ⟨ds, rfl, p2⟩ := p1.onLst
  obtain ⟨a, us, rfl, q, z, rl⟩ := rv
  unfold minI at p2
  cases hb : intsD ds with
  | none => rw [hb] at p2; exact p2.elim
  | some bs =>
    rw [hb] at p2
    cases bs with
    | nil => exact p2.elim
    | cons n ns =>
      have e := intsD_rep rl hb
      subst e
      refine ⟨a, n :: ns, rfl, .inl (.inl (st.gd.gh _ _ q)), by simp, fun m hm hy => ?_⟩
      have e : m = minL n ns := by
        obtain ⟨h1, h2, h3⟩ := minL_ok ns n
        have a1 : m ≤ minL n ns := by
          rcases h3 with h3 | h3
          · rw [h3]; exact hy n List.mem_cons_self
          · exact hy _ (List.mem_cons_of_mem _ h3)
        have a2 : minL n ns ≤ m := by
          rcases List.mem_cons.mp hm with rfl | hm
          · exact h1
          · exact h2 m hm
        omega
      subst e
      exact p2 _ G H (Ext.refl _ _ _) st rfl
end
end DL
set_option Elab.async false
set_option linter.all false
set_option maxRecDepth 100000
set_option maxHeartbeats 1000000
set_option autoImplicit false
/-! DL: a global that is a tuple of texts -/
namespace DL
open PySem PySem.Spec PyProof.Rows L2
theorem strsB_vals : ∀ {ss : List Str} {us : List Value}, strsB ss us = true → Vals (ss.map V.str) us
  | [], [], _ => .nil
  | s :: ss, u :: us, h => by
    cases u with
    | str x t =>
      have h : (decide (x = s) && strsB ss us) = true := h
      obtain ⟨h1, h2⟩ := Bool.and_eq_true_iff.mp h
      obtain rfl := of_decide_eq_true h1
      exact .cons ⟨t, rfl⟩ (strsB_vals h2)
    | _ => cases h
  | [], _ :: _, h => nomatch h
  | _ :: _, [], h => nomatch h
theorem tupSB_ok {K : PySem.W.Frag} {a : Addr} {ss : List Str} (h : tupSB K a ss = true) (H : Hp) : SqT K H a (ss.map V.str) ∧ ss.length ≤ 1000 := by
  unfold tupSB at h
  split at h
  · rename_i t dd its n sl hk
    obtain ⟨h1, h2⟩ := Bool.and_eq_true_iff.mp h
    obtain ⟨h3, h4⟩ := Bool.and_eq_true_iff.mp h2
    have e1 : t = "tuple" := of_decide_eq_true h1
    have e3 := of_decide_eq_true h3
    subst e1
    have v := strsB_vals h4
    have hl := v.length
    rw [List.length_map] at hl
    have h9 : its.toList.length = its.size := Array.length_toList
    exact ⟨.inr ⟨_, its, n, hk, rfl, rfl, by rw [sizeLine_eq]; omega, v⟩, by omega⟩
  · cases h
section
variable {S : Type} {X : Cx} {F : Fx S}
theorem RepL.strs {C : Cc S} {G : Hp} : ∀ ss : List Str, RepL C G (ss.map D.str) (ss.map V.str)
  | [] => rfl
  | s :: ss => ⟨_, _, rfl, rfl, RepL.strs ss⟩
theorem de_gtup {x : Str} {a : Addr} {ss : List Str} {pos : Pos} (hK : X.K = F.K) (hg : Gl X x) (hm : X.mg x = some (.ref a)) (ht : tupSB X.K a ss = true) (hd : (x == ("__debug__" : Str)) = false := by decide) : PE X (.Name x pos) (tE F (rC (.tup (ss.map D.str)))) :=
  de_c (pe_glob (v := .ref a) hg hm rfl hd) fun G => by
    rw [hK] at ht
    obtain ⟨h1, h2⟩ := tupSB_ok ht G
    exact ⟨a, ss.map V.str, rfl, h1, by rw [List.length_map, sizeLine_eq]; omega, RepL.strs ss⟩
end
end DL
set_option Elab.async false
set_option linter.all false
set_option maxRecDepth 100000
set_option maxHeartbeats 400000
set_option autoImplicit false
/-! DL: x in xs, x not in xs, plain data of any depth -/
namespace DL
open PySem PySem.Spec PyProof.Rows L2
end DL
set_option Elab.async false
set_option linter.all false
set_option maxRecDepth 100000
set_option maxHeartbeats 4000000
set_option autoImplicit false
/-! printed by tools/k26.py: helpers -/
namespace DL
open PySem PySem.Spec PyProof.Rows L2
abbrev N_is_kind : List Str := ["thing"]
def rd_is_kind {S : Type} (cs : List Str) : Env → M S Flw :=
  (sRet (andV (isi (tb_kit_ty_str cs) (rVar 0)) (bin (inD false) (rVar 0) (rC (.tup ((["date", "number", "age", "left"] : List Str).map D.str))))))
def sem_is_kind {S : Type} (cs : List Str) : List D → M S D := runB (rd_is_kind cs) N_is_kind
abbrev N_key_by : List Str := ["kind", "dates", "date", "one"]
def rd_key_by {S : Type} : Env → M S Flw :=
  (sSeq (sIf (asT (bin (eqD false) (rVar 0) (rC (.str "date")))) (sRet (rVar 2)) sNx) (sSeq (sIf (asT (bin (eqD false) (rVar 0) (rC (.str "number")))) (sRet (bcl lenD (aCons (cmp [3] (iSq (rVar 1)) (gNm 3) (asT (bin ltD (rVar 3) (rVar 2))) (rVar 3)) aNil))) sNx) (sRet (iteE (asT (bin (eqD false) (rVar 0) (rC (.str "age")))) (bin subD (rVar 2) (bcl minD (aCons (rVar 1) aNil))) (bcl lenD (aCons (cmp [3] (iSq (rVar 1)) (gNm 3) (asT (bin gtD (rVar 3) (rVar 2))) (rVar 3)) aNil))))))
def sem_key_by {S : Type} : List D → M S D := runB (rd_key_by) N_key_by
end DL
set_option Elab.async false
set_option linter.all false
set_option maxRecDepth 100000
set_option maxHeartbeats 400000
set_option autoImplicit false
/-! DL: a lambda handed on: the library's pe_act (HandS.Lambda), turned to a def that is called from the def that got the lambda -/
namespace DL
open PySem PySem.Spec PyProof.Rows L2 LamX
theorem un_comp {fs fs2 : List Addr} {H H1 H2 : Hp} {h h1 h2 : Heap} (a : Un fs [] H H1 h h1) (b : Un fs2 [] H1 H2 h1 h2) (hz : ∀ x, x ∈ fs2 → x ∉ fs → h.get? x = none) : Un fs [] H H2 h h2 where
  keep := fun c ob q n hc hx => b.keep c ob (a.keep c ob q n hc hx) (a.free c ob q n hx) (fun z => by have := hz c z hc; rw [q] at this; cases this) hx
  slot := fun c ob q n hc hx => by
    obtain ⟨sl, q1⟩ := a.slot c ob q n hc hx
    by_cases hb : c ∈ fs2
    · obtain ⟨sl2, q2⟩ := b.slot c _ q1 (a.free c ob q n hx) hb hx
      exact ⟨sl2, q2⟩
    · exact ⟨sl, b.keep c _ q1 (a.free c ob q n hx) hb hx⟩
  free := fun c ob q n hx => by
    obtain ⟨sl, q1⟩ := a.any q n hx
    exact b.free c _ q1 (a.free c ob q n hx) hx
  there := fun c ob q hx => by
    obtain ⟨o', q'⟩ := a.there c ob q hx
    exact b.there c o' q' hx
  tups := fun c xs q => b.tups c xs (a.tups c xs q)
  frzs := fun c o u q => b.frzs c o u (a.frzs c o u q)
  tbls := fun c ps q => by
    obtain ⟨m1, q1⟩ := a.tbls c ps q
    obtain ⟨m2, q2⟩ := b.tbls c _ q1
    exact ⟨m1 ++ m2, by rw [← Array.append_assoc]; exact q2⟩
end DL
set_option Elab.async false
set_option linter.all false
set_option maxRecDepth 100000
set_option maxHeartbeats 400000
set_option autoImplicit false
/-! DL: a lambda handed on: the library's pe_act (HandS.Lambda), turned to a def that is called from the def that got the lambda -/
namespace DL
open PySem PySem.Spec PyProof.Rows L2 LamX
end DL
set_option Elab.async false
set_option linter.all false
set_option maxRecDepth 100000
set_option maxHeartbeats 400000
set_option autoImplicit false
/-! DL: told(lambda: work): what a def makes of the error that some work raises, or of None -/
namespace DL
open PySem PySem.Spec PyProof.Rows L2 LamX
end DL
set_option Elab.async false
set_option linter.all false
set_option maxRecDepth 100000
set_option maxHeartbeats 400000
set_option autoImplicit false
/-! DL: told(lambda: work), where told hands on a lambda of its own that keeps what the work gives -/
namespace DL
open PySem PySem.Spec PyProof.Rows L2 LamX
section
variable {X : Cx} {pins : List (Addr × Obj)} {σ : L2.St} {H : Hp} {s : Shared}
/-- the library's pe_act, the lambda's body told of the state in which it begins -/
theorem pe_actU {CXg : CXT} {Eg : XK} {Ng : List Str} {qg : Str} {sg : Scope} {g f c' : Addr} {cdg pm ctv : Value} {params : Arguments} {body : Expr} {scope : Scope} {k i : Nat} {a : Str} {pn : List (Addr × Obj)} {xe : Value → Shared → Prop} {W : WX} {E : XK} {tb : TE} {p1 p2 : Pos}
    (I : Inv X pins σ H s) (L : LamS X.env.scope scope) (hf : s.heap.get? f = some (PySem.W.kla_obj "<lambda>" (X.env.qual ++ "<lambda>") params body scope (cloFrom X.env.cells scope.names []) pm c' ctv)) (hfn : H f = none) (hfr : f ∉ frs X.stack)
    (hbind : bindArgs (PySem.W.kla_fn "<lambda>" (X.env.qual ++ "<lambda>") params body scope (cloFrom X.env.cells scope.names []) pm (.ref c') ctv) ⟨[], []⟩ = pure [])
    (tk : Takes ((cxOf CXg X.prog X.w X.K X.mg X.base Ng qg sg g cdg X.A X.stack s H Eg).tr pn xe) W) (hW : ∀ cls d σ' H', E cls d H' → W cls d σ' H') (hr : Room (k + 1) (X.A.deeper (envOfC qg sg s.heap.objs.size g cdg)))
    (hbody : ∀ (A : Around) (outer : List PySem.Env) (s2 : Shared) (H2 : Hp), Un (frs X.stack) [] H H2 s.heap s2.heap → (∀ x, x ∈ frs outer → x ∉ frs X.stack → s.heap.get? x = none) → Room k (A.deeper (lamEnv X scope s2.heap.objs.size f c')) → PE (lamCx X A outer s2 H2 E scope f c') body tb)
    (hN : Ng[i]? = some a) (hv : Vis sg a) (hd : (a == ("__debug__" : Str)) = false := by decide) (hcd : (a == ("__classdict__" : Str)) = false := by decide) :
    PE ((cxOf CXg X.prog X.w X.K X.mg X.base Ng qg sg g cdg X.A X.stack s H Eg).tr pn xe) (.Call (.Name a p1) [] [] p2)
      (fun σZ HZ Q => σZ[i]? = some (some (.ref f)) ∧ HZ c' = some (CodeO c' (X.env.qual ++ "<lambda>")) ∧ tb σ HZ Q) := by
  refine ⟨fun pinsZ sZ σZ HZ Q IZ h => ?_⟩
  obtain ⟨hs, hc, ht⟩ := h
  refine wpAny_Call_Name_kw (thn ((pe_var (pos := p1) (i := i) hN hv hd hcd).run pinsZ sZ σZ HZ (fun v H1 => v = .ref f ∧ H1 = HZ) IZ ⟨.ref f, hs, rfl, rfl⟩) fun u s1 ⟨v, H1, I1, r1, q1⟩ => ?_)
  obtain ⟨ev, eH⟩ := q1
  subst ev
  rw [eH] at I1
  obtain rfl : u = Value.ref f := r1
  have of1 : s1.heap.get? f = some (PySem.W.kla_obj "<lambda>" (X.env.qual ++ "<lambda>") params body scope (cloFrom X.env.cells scope.names []) pm c' ctv) := I1.base.keep f _ hf hfn hfr (fun z => nomatch (show f ∈ ([] : List Addr) from z))
  refine PySem.W.callWith_F0 ⟨_, _, _, _, of1⟩ ?_
  have un : Un (frs X.stack) [] H HZ s.heap s1.heap := I1.base
  have hfz : ∀ x, x ∈ frs (envOfC qg sg s.heap.objs.size g cdg :: X.stack) → x ∉ frs X.stack → s.heap.get? x = none := fun z hz hn => by
    rcases List.mem_cons.mp (show z ∈ s.heap.objs.size :: frs X.stack from hz) with e | e
    · subst e
      cases hq : s.heap.get? s.heap.objs.size with
      | none => rfl
      | some o => exact absurd (Heap.lt_size hq) (Nat.lt_irrefl _)
    · exact absurd e hn
  obtain ⟨⟨oc, vs, t, hoc, hdc, hvc⟩, _, _⟩ := I1.hok c' _ hc
  have rc : codeAny (model X.prog X.w) (X.A.deeper (envOfC qg sg s.heap.objs.size g cdg)) (.call (.ref f) ⟨[], []⟩) (CR (L2.CX X.prog X.w) (envOfC qg sg s.heap.objs.size g cdg :: X.stack) X.prog X.w HZ s1 Q E) s1 := by
    refine PySem.W.kla_callFunE hr.depth of1 rfl L.co L.gen rfl ⟨c', oc, vs, t, rfl, hoc, hdc, hvc⟩ ?_
    rw [hbind]
    refine wpAny_pure (wpAny_newFunctionEnv (fun y hy => (L.own y hy).2) (fun y hy => absurd hy (by simp)) (fun h₁ hns hsb => ⟨I1.nolimit.fresh _ hsb, ?_⟩) L.kind)
    show codeAny _ _ (.expr body (lamEnv X scope s1.heap.objs.size f c')) _ _
    have kp : ∀ b o, s1.heap.get? b = some o → h₁.get? b = some o := fun b o e => hsb.extBut b o (Nat.ne_of_lt (Heap.lt_size e)) (Heap.get?_push_of_some _ e)
    have J : Inv (lamCx X (X.A.deeper (envOfC qg sg s.heap.objs.size g cdg)) (envOfC qg sg s.heap.objs.size g cdg :: X.stack) s1 HZ E scope f c') [] σ HZ { s1 with heap := h₁, toks := s1.toks + ([] : List (Str × Value)).length } :=
      lam_start2 I L I1.env0 hr.hd un hns kp
    refine PySem.W.kla_codeExpr (wpAny_mono ((hbody _ _ s1 HZ un hfz (hr.deeper _)).run [] _ _ HZ Q J ht) (fun v s' hq => ?_) fun e s' hq => hq)
    obtain ⟨w', H', J', rv, q⟩ := hq
    exact ⟨w', H', J'.os, J'.bare, J'.base, J'.hok, rv, q⟩
  have hx : Passes (L2.CX X.prog X.w) ((cxOf CXg X.prog X.w X.K X.mg X.base Ng qg sg g cdg X.A X.stack s H Eg).tr pn xe) E := passes_call tk hW
  refine wpAny_call (codeAny_mono rc fun r s' hq => ?_)
  cases r with
  | error e => exact hx pinsZ σZ HZ s1 e s' I1 hq
  | ok fl =>
    cases fl with
    | ret u => exact I1.after hq
    | next => exact False.elim hq
    | brk => exact False.elim hq
    | cont => exact False.elim hq
/-- x(), in a lambda's body that begins at s2, deeper than the def that got the lambda at s -/
theorem pe_act3 {Z : Cx} {A2 : Around} {outer2 : List PySem.Env} {s2 : Shared} {H2 : Hp} {scope2 : Scope} {f2 c2 f c' : Addr} {pm ctv : Value} {params : Arguments} {body : Expr} {scope : Scope} {k i : Nat} {a : Str} {E : XK} {tb : TE} {p1 p2 : Pos}
    (hZ : Z.prog = X.prog ∧ Z.w = X.w ∧ Z.K = X.K ∧ Z.mg = X.mg ∧ Z.base = X.base)
    (I : Inv X pins σ H s) (L : LamS X.env.scope scope) (hf : s.heap.get? f = some (PySem.W.kla_obj "<lambda>" (X.env.qual ++ "<lambda>") params body scope (cloFrom X.env.cells scope.names []) pm c' ctv)) (hfn : H f = none) (hfr : f ∉ frs X.stack)
    (hbind : bindArgs (PySem.W.kla_fn "<lambda>" (X.env.qual ++ "<lambda>") params body scope (cloFrom X.env.cells scope.names []) pm (.ref c') ctv) ⟨[], []⟩ = pure [])
    (hu2 : Un (frs X.stack) [] H H2 s.heap s2.heap) (hfz : ∀ b, b ∈ frs outer2 → b ∉ frs X.stack → s.heap.get? b = none)
    (hr : Room (k + 1) (A2.deeper (lamEnv Z scope2 s2.heap.objs.size f2 c2)))
    (hbody : ∀ (A : Around) (outer : List PySem.Env) (s : Shared) (H : Hp), Room k (A.deeper (lamEnv X scope s.heap.objs.size f c')) → PE (lamCx X A outer s H E scope f c') body tb)
    (hN : Z.N[i]? = some a) (hv : Vis scope2 a) (hd : (a == ("__debug__" : Str)) = false := by decide) (hcd : (a == ("__classdict__" : Str)) = false := by decide) :
    PE (lamCx Z A2 outer2 s2 H2 E scope2 f2 c2) (.Call (.Name a p1) [] [] p2)
      (fun σZ HZ Q => σZ[i]? = some (some (.ref f)) ∧ HZ c' = some (CodeO c' (X.env.qual ++ "<lambda>")) ∧ tb σ HZ Q) := by
  obtain ⟨z1, z2, z3, z4, z5⟩ := hZ
  refine ⟨fun pinsZ sZ σZ HZ Q IZ h => ?_⟩
  obtain ⟨hs, hc, ht⟩ := h
  refine wpAny_Call_Name_kw (thn ((pe_var (X := lamCx Z A2 outer2 s2 H2 E scope2 f2 c2) (pos := p1) (i := i) hN hv hd hcd).run pinsZ sZ σZ HZ (fun v H1 => v = .ref f ∧ H1 = HZ) IZ ⟨.ref f, hs, rfl, rfl⟩) fun u s1 ⟨v, H1, I1, r1, q1⟩ => ?_)
  obtain ⟨ev, eH⟩ := q1
  subst ev
  rw [eH] at I1
  obtain rfl : u = Value.ref f := r1
  have u2 : Un (frs outer2) [] H2 HZ s2.heap s1.heap := I1.base
  have un : Un (frs X.stack) [] H HZ s.heap s1.heap := un_comp hu2 u2 hfz
  have of1 : s1.heap.get? f = some (PySem.W.kla_obj "<lambda>" (X.env.qual ++ "<lambda>") params body scope (cloFrom X.env.cells scope.names []) pm c' ctv) := un.keep f _ hf hfn hfr (fun z => nomatch (show f ∈ ([] : List Addr) from z))
  refine PySem.W.callWith_F0 ⟨_, _, _, _, of1⟩ ?_
  obtain ⟨⟨oc, vs, t, hoc, hdc, hvc⟩, _, _⟩ := I1.hok c' _ hc
  have e0 : Env0 X.prog X.w X.K X.mg X.base (A2.deeper (lamEnv Z scope2 s2.heap.objs.size f2 c2)) (lamEnv Z scope2 s2.heap.objs.size f2 c2 :: outer2) s1 HZ := by
    have := I1.env0
    have this : Env0 Z.prog Z.w Z.K Z.mg Z.base (A2.deeper (lamEnv Z scope2 s2.heap.objs.size f2 c2)) (lamEnv Z scope2 s2.heap.objs.size f2 c2 :: outer2) s1 HZ := this
    rw [z1, z2, z3, z4, z5] at this
    exact this
  have rc : codeAny (model X.prog X.w) (A2.deeper (lamEnv Z scope2 s2.heap.objs.size f2 c2)) (.call (.ref f) ⟨[], []⟩) (CR (L2.CX X.prog X.w) (lamEnv Z scope2 s2.heap.objs.size f2 c2 :: outer2) X.prog X.w HZ s1 Q E) s1 := by
    refine PySem.W.kla_callFunE hr.depth of1 rfl L.co L.gen rfl ⟨c', oc, vs, t, rfl, hoc, hdc, hvc⟩ ?_
    rw [hbind]
    refine wpAny_pure (wpAny_newFunctionEnv (fun y hy => (L.own y hy).2) (fun y hy => absurd hy (by simp)) (fun h₁ hns hsb => ⟨I1.nolimit.fresh _ hsb, ?_⟩) L.kind)
    show codeAny _ _ (.expr body (lamEnv X scope s1.heap.objs.size f c')) _ _
    have kp : ∀ b o, s1.heap.get? b = some o → h₁.get? b = some o := fun b o e => hsb.extBut b o (Nat.ne_of_lt (Heap.lt_size e)) (Heap.get?_push_of_some _ e)
    have J : Inv (lamCx X (A2.deeper (lamEnv Z scope2 s2.heap.objs.size f2 c2)) (lamEnv Z scope2 s2.heap.objs.size f2 c2 :: outer2) s1 HZ E scope f c') [] σ HZ { s1 with heap := h₁, toks := s1.toks + ([] : List (Str × Value)).length } :=
      lam_start2 I L e0 hr.hd un hns kp
    refine PySem.W.kla_codeExpr (wpAny_mono ((hbody _ _ s1 HZ (hr.deeper _)).run [] _ _ HZ Q J ht) (fun v s' hq => ?_) fun e s' hq => hq)
    obtain ⟨w', H', J', rv, q⟩ := hq
    exact ⟨w', H', J'.os, J'.bare, J'.base, J'.hok, rv, q⟩
  have hx : Passes (L2.CX X.prog X.w) (lamCx Z A2 outer2 s2 H2 E scope2 f2 c2) E := by
    have tk : Takes (lamCx Z A2 outer2 s2 H2 E scope2 f2 c2) (fun cls d _ H => E cls d H) := takes_of rfl rfl rfl rfl
    have hp := passes_call tk (E := E) fun cls d σ' H' h => h
    intro pins' σ' H' s' e s'' I' c'
    refine hp pins' σ' H' s' e s'' I' ?_
    show L2.CX Z.prog Z.w _ _ _ _ _ _
    rw [z1, z2]
    exact c'
  show wpAny (model Z.prog Z.w) _ _ _ _ _
  rw [z1, z2]
  refine wpAny_call (codeAny_mono rc fun r s' hq => ?_)
  cases r with
  | error e => exact hx pinsZ σZ HZ s1 e s' I1 hq
  | ok fl =>
    cases fl with
    | ret u =>
      have := I1.after (Q := Q) (u := u) (s' := s') (by
        show CE (lamEnv Z scope2 s2.heap.objs.size f2 c2 :: outer2) Z.prog Z.w HZ s1 Q u s'
        rw [z1, z2]
        exact hq)
      exact this
    | next => exact False.elim hq
    | brk => exact False.elim hq
    | cont => exact False.elim hq
end
section
variable {X : Cx}
/-- x(lambda: body), the body told of where it is entered -/
theorem pe_lamcallU {T : List (Addr × Str)} {TT : (XK → Hp → VK → Prop) → Hp → VK → Prop} {x a : Str} {g c P : Addr} {k : Nat} {pg : Arguments} {bg : List Stmt} {sg : Scope} {dV kV doc pm cdv ct oc : Value} {an od : Option Addr} {osl : Array (Option Value)} {Ng : List Str}
    {params : Arguments} {body : Expr} {scope : Scope} {t : XK → TE} {p lpos pos : Pos} (hg : Gl X x) (hm : X.mg x = some (.ref g)) (hk : PySem.W.keepIn X.K (.ref g) = true)
    (lk : X.K.lookup g = some ⟨oc, od, .func (PySem.W.fnOf x x pg bg sg dV kV doc pm an cdv ct), osl⟩) (hcg : PySem.W.codeIn X.K cdv x = true) (hb : L2.Binds X.K (PySem.W.fnOf x x pg bg sg dV kV doc pm an cdv ct) [a] []) (Sg : FnScope Ng [a] sg) (hNg : Ng[0]? = some a) (hva : Vis sg a)
    (hG : GivesTo X Ng x sg g cdv bg a (X.env.qual ++ "<lambda>") TT)
    (TB : TabB X.base X.mg c P) (hcode : X.env.code = .ref c) (hmT : (P, X.env.qual ++ "<lambda>") ∈ T) (hu : ∀ p ∈ T, p.1 = P → p.2 = X.env.qual ++ "<lambda>") (hr : Room (k + 2) X.A) (L : LamS X.env.scope scope) (hdef : defaultsOf params X.env = ([], []))
    (hbind : ∀ (q : Str) (cl : List (Str × Addr)) (pm cv ctv : Value), bindArgs (PySem.W.kla_fn "<lambda>" q params body scope cl pm cv ctv) ⟨[], []⟩ = pure [])
    (hbody : ∀ (A : Around) (outer : List PySem.Env) (s : Shared) (H : Hp) (E : XK) (f c' : Addr) (pinsM : List (Addr × Obj)) (σM : L2.St) (HM : Hp) (sM : Shared), Inv X pinsM σM HM sM → Un (frs X.stack) [] HM H sM.heap s.heap → (∀ x, x ∈ frs outer → x ∉ frs X.stack → sM.heap.get? x = none) →
      Room k (A.deeper (lamEnv X scope s.heap.objs.size f c')) → PE (lamCx X A outer s H E scope f c') body (t E))
    (hdb : (x == ("__debug__" : Str)) = false := by decide) (hd : (a == ("__debug__" : Str)) = false := by decide) (hcd : (a == ("__classdict__" : Str)) = false := by decide) :
    PE X (.Call (.Name x p) [.Lambda params body scope lpos] [] pos) (tLamR T TT t) := by
  refine ⟨fun pins s σ H Q I h => ?_⟩
  obtain ⟨hT, h⟩ := h
  refine wpAny_Call_Name_kw (ld_glob I hg hm ?_ hdb)
  refine PySem.W.callWith_K (h₀ := X.base) I.ok.mod.kin hk ?_ (by rfl) (by rfl)
  show wpAny _ _ (spliced ((false, eval (.Lambda params body scope lpos) X.env) :: backTo pos (starEach [] X.env))) _ _ s
  refine Calls.spliced_cons (lam_makeR I TB hcode hmT hu hT hdef (L.has I.ok) fun f c' pm' ctv H1 s' I1 eN eR T1 hf hfn hfr hco => ?_)
  refine Calls.spliced_nil ⟨I1.kIn, ?_⟩
  have rc : codeAny (model X.prog X.w) X.A (.call (.ref g) ⟨[.ref f], []⟩) (CR C8.CX0 X.stack X.prog X.w H1 s' Q C8.E0) s' := by
    refine run_ofS (N := Ng) (ps := [a]) (us := [.ref f]) (vs := [.ref f]) lk hcg Sg hr I1.env0 (hb s' [.ref f] I1.kIn rfl) (.cons rfl .nil) rfl fun hr' => ?_
    obtain ⟨t', ht', hq'⟩ := hG f c' s' H1 Q (fun E H' Q' => t E σ H' Q') (fun W pn xe E p1 p2 tk hW => pe_actU (i := 0) I1 L hf hfn hfr (hbind _ _ _ _ _) tk hW hr' (fun A outer s H un hz hr2 => hbody A outer s H E f c' pins σ H1 s' I1 un hz hr2) hNg hva hd hcd) hco (h H1 eN eR T1)
    exact ⟨t', ht'.nox, hq'⟩
  refine wpAny_call (codeAny_mono rc fun r s2 hq => ?_)
  cases r with
  | error e => exact (show False from hq).elim
  | ok fl =>
    cases fl with
    | ret u => exact I1.after hq
    | next => exact False.elim hq
    | brk => exact False.elim hq
    | cont => exact False.elim hq
end
section
variable {X : Cx}
/-- what told makes of the lambda's reading: it keeps what the work gives -/
def TTkeep (T : List (Addr × Str)) (K : PySem.W.Frag) (SE : Addr) (Nt : List Str) (tr : Hp → TS) : (XK → Hp → VK → Prop) → Hp → VK → Prop := fun tl H Q =>
  ∀ f l : Addr, H l = none → Tabs T (upd H l (.lst [])) ∧ ∀ H2, ExtN (upd H l (.lst [])) H2 → (∀ b, H2 b = none → upd H l (.lst []) b = none) → Tabs T H2 →
    tl (EKeep K (.ref SE) fun v H' => tr H { nx := fun _ H'' => Q .non H'', rt := Q } (((L2.start Nt [.ref f]).set 1 (some (.ref l))).set 2 (some v)) H') H2
      fun v H3 => rAppend (.ref l) [v] H3 fun _ H' => tr H { nx := fun _ H'' => Q .non H'', rt := Q } (((L2.start Nt [.ref f]).set 1 (some (.ref l))).set 2 (some .non)) H'
theorem pe_told4 {T : List (Addr × Str)} {tr : Hp → TS} {x a y b fv ev : Str} {g gc c P ct2 P2 SE : Addr} {k : Nat} {pg pgc : Arguments} {rest bgc : List Stmt} {sg sc : Scope} {dV kV doc pm ct oc dVc kVc docc pmc cdc ctc occ : Value} {an od anc odc : Option Addr} {osl oslc : Array (Option Value)} {Nt Ng : List Str}
    {params params2 : Arguments} {body : Expr} {scope scope2 : Scope} {t : XK → TE} {p lpos pos py pyp pe pas pf pl pfs pfa apos pac pcc pcp lpos2 : Pos} (hg : Gl X x) (hm : X.mg x = some (.ref g)) (hk : PySem.W.keepIn X.K (.ref g) = true)
    (lk : X.K.lookup g = some ⟨oc, od, .func (PySem.W.fnOf x x pg (.Assign [.Name fv pf] (.List [] pl) pfs :: .Assign [.Name ev pe] (.Call (.Name y py) [.Lambda params2 (.Call (.Attribute (.Name fv pfa) "append" apos) [.Call (.Name a pac) [] [] pcc] [] pcp) scope2 lpos2] [] pyp) pas :: rest) sg dV kV doc pm an (.ref ct2) ct), osl⟩)
    (hcg : PySem.W.codeIn X.K (.ref ct2) x = true) (hb : L2.Binds X.K (PySem.W.fnOf x x pg (.Assign [.Name fv pf] (.List [] pl) pfs :: .Assign [.Name ev pe] (.Call (.Name y py) [.Lambda params2 (.Call (.Attribute (.Name fv pfa) "append" apos) [.Call (.Name a pac) [] [] pcc] [] pcp) scope2 lpos2] [] pyp) pas :: rest) sg dV kV doc pm an (.ref ct2) ct) [a] []) (Sg : FnScope Nt [a] sg) (hNt : Nt[0]? = some a) (hva : Vis scope2 a) (hvf : Vis scope2 fv)
    (hgy : sg.names.lookup y = some .globalImplicit) (hmy : X.mg y = some (.ref gc)) (hky : PySem.W.keepIn X.K (.ref gc) = true)
    (lkc : X.K.lookup gc = some ⟨occ, odc, .func (PySem.W.fnOf y y pgc bgc sc dVc kVc docc pmc anc cdc ctc), oslc⟩) (hcgc : PySem.W.codeIn X.K cdc y = true) (hbc : L2.Binds X.K (PySem.W.fnOf y y pgc bgc sc dVc kVc docc pmc anc cdc ctc) [b] []) (Sc : FnScope Ng [b] sc) (hNg : Ng[0]? = some b) (hvb : Vis sc b)
    (hG : ∀ (s : Shared) (H : Hp), GivesTo (cxOf C8.CX0 X.prog X.w X.K X.mg X.base Nt x sg g (.ref ct2) X.A X.stack s H C8.E0).nox Ng y sc gc cdc bgc b ((cxOf C8.CX0 X.prog X.w X.K X.mg X.base Nt x sg g (.ref ct2) X.A X.stack s H C8.E0).nox.env.qual ++ "<lambda>") (TKeep X.K (.ref SE)))
    (hrest : ∀ (s : Shared) (H : Hp), Room (k + 3) (X.A.deeper (envOfC x sg s.heap.objs.size g (.ref ct2))) → PSs (cxOf C8.CX0 X.prog X.w X.K X.mg X.base Nt x sg g (.ref ct2) X.A X.stack s H C8.E0).nox rest (tr H))
    (hND : Nt.Nodup) (hfv : Nt[1]? = some fv) (hlf : sg.names.lookup fv = some .cell) (hev : Nt[2]? = some ev) (hvl : sg.names.lookup ev = some .local) (hst : ∀ f : Addr, L2.start Nt [V.ref f] = [some (V.ref f), none, none, none])
    (hsw0 : ∀ env : PySem.Env, env.scope = sg → swapsWithSole [.Name fv pf] (.List [] pl) pfs.line env = pure false) (hswb0 : ∀ env : PySem.Env, swappedStores [.Name fv pf] (.List [] pl) env = pure none)
    (hsw : ∀ env : PySem.Env, env.scope = sg → swapsWithSole [.Name ev pe] (.Call (.Name y py) [.Lambda params2 (.Call (.Attribute (.Name fv pfa) "append" apos) [.Call (.Name a pac) [] [] pcc] [] pcp) scope2 lpos2] [] pyp) pas.line env = pure false)
    (hswb : ∀ env : PySem.Env, swappedStores [.Name ev pe] (.Call (.Name y py) [.Lambda params2 (.Call (.Attribute (.Name fv pfa) "append" apos) [.Call (.Name a pac) [] [] pcc] [] pcp) scope2 lpos2] [] pyp) env = pure none)
    (hline : (apos.endLine == pcp.line) = true)
    (TB : TabB X.base X.mg c P) (hcode : X.env.code = .ref c) (hmT : (P, X.env.qual ++ "<lambda>") ∈ T) (hu : ∀ p ∈ T, p.1 = P → p.2 = X.env.qual ++ "<lambda>") (hr : Room (k + 4) X.A) (L : LamS X.env.scope scope) (hdef : defaultsOf params X.env = ([], []))
    (hbind : ∀ (q : Str) (cl : List (Str × Addr)) (pm cv ctv : Value), bindArgs (PySem.W.kla_fn "<lambda>" q params body scope cl pm cv ctv) ⟨[], []⟩ = pure [])
    (hbody : ∀ (A : Around) (outer : List PySem.Env) (s : Shared) (H : Hp) (E : XK) (f c' : Addr), Room k (A.deeper (lamEnv X scope s.heap.objs.size f c')) → PE (lamCx X A outer s H E scope f c') body (t E))
    (TB2 : TabB X.base X.mg ct2 P2) (hmT2 : ∀ (s : Shared) (H : Hp), (P2, (cxOf C8.CX0 X.prog X.w X.K X.mg X.base Nt x sg g (.ref ct2) X.A X.stack s H C8.E0).nox.env.qual ++ "<lambda>") ∈ T) (hu2 : ∀ (s : Shared) (H : Hp), ∀ p ∈ T, p.1 = P2 → p.2 = (cxOf C8.CX0 X.prog X.w X.K X.mg X.base Nt x sg g (.ref ct2) X.A X.stack s H C8.E0).nox.env.qual ++ "<lambda>") (L2' : LamS sg scope2) (hdef2 : ∀ env : PySem.Env, defaultsOf params2 env = ([], []))
    (hbind2 : ∀ (q : Str) (cl : List (Str × Addr)) (pm cv ctv : Value), bindArgs (PySem.W.kla_fn "<lambda>" q params2 (.Call (.Attribute (.Name fv pfa) "append" apos) [.Call (.Name a pac) [] [] pcc] [] pcp) scope2 cl pm cv ctv) ⟨[], []⟩ = pure [])
    (hdx : (x == ("__debug__" : Str)) = false := by decide) (hdy : (y == ("__debug__" : Str)) = false := by decide) (hda : (a == ("__debug__" : Str)) = false := by decide) (hca : (a == ("__classdict__" : Str)) = false := by decide) (hdb : (b == ("__debug__" : Str)) = false := by decide) (hcb : (b == ("__classdict__" : Str)) = false := by decide) (hdf : (fv == ("__debug__" : Str)) = false := by decide) (hcf : (fv == ("__classdict__" : Str)) = false := by decide) :
    PE X (.Call (.Name x p) [.Lambda params body scope lpos] [] pos) (tLamR T (TTkeep T X.K SE Nt tr) t) := by
  refine ⟨fun pins s σ H Q I h => ?_⟩
  obtain ⟨hT, h⟩ := h
  refine wpAny_Call_Name_kw (ld_glob I hg hm ?_ hdx)
  refine PySem.W.callWith_K (h₀ := X.base) I.ok.mod.kin hk ?_ (by rfl) (by rfl)
  show wpAny _ _ (spliced ((false, eval (.Lambda params body scope lpos) X.env) :: backTo pos (starEach [] X.env))) _ _ s
  refine Calls.spliced_cons (lam_makeR I TB hcode hmT hu hT hdef (L.has I.ok) fun f c' pm' ctv H1 s' I1 eN eR T1 hf hfn hfr hco => ?_)
  refine Calls.spliced_nil ⟨I1.kIn, ?_⟩
  have rc : codeAny (model X.prog X.w) X.A (.call (.ref g) ⟨[.ref f], []⟩) (CR C8.CX0 X.stack X.prog X.w H1 s' Q C8.E0) s' := by
    refine run_ofS (N := Nt) (ps := [a]) (us := [.ref f]) (vs := [.ref f]) lk hcg Sg hr I1.env0 (hb s' [.ref f] I1.kIn rfl) (.cons rfl .nil) rfl fun hr' => ?_
    have hgz : Gl (cxOf C8.CX0 X.prog X.w X.K X.mg X.base Nt x sg g (.ref ct2) X.A X.stack s' H1 C8.E0).nox y := hgy
    have ps1 : PS (cxOf C8.CX0 X.prog X.w X.K X.mg X.base Nt x sg g (.ref ct2) X.A X.stack s' H1 C8.E0).nox (.Assign [.Name fv pf] (.List [] pl) pfs) _ :=
      ps_asg (pe_lst pa_nil) (pg_name (pos := pf) (i := 1) hND hfv (.inr hlf) (.inl rfl)) (hsw0 _ rfl) (hswb0 _)
    have pc := pe_lamcallU (X := (cxOf C8.CX0 X.prog X.w X.K X.mg X.base Nt x sg g (.ref ct2) X.A X.stack s' H1 C8.E0).nox) (T := T) (p := py) (lpos := lpos2) (pos := pyp) (k := k + 1)
      (t := fun E => tBM X.K "list" rAppend (tVar 1) (tCons (fun σZ HZ Q => σZ[0]? = some (some (.ref f)) ∧ HZ c' = some (CodeO c' (X.env.qual ++ "<lambda>")) ∧ t E σ HZ Q) tNil))
      hgz hmy hky lkc hcgc hbc Sc hNg hvb (hG s' H1) TB2 rfl (hmT2 s' H1) (hu2 s' H1) hr' L2' (hdef2 _) hbind2 (fun A outer s2 H2 E f2 c2 pinsM σM HM sM IM un hz hr2 => ?_) hdy hdb hcb
    · have ps := pss_cons ps1 (pss_cons (ps_asg (pos := pas) pc (pg_name (pos := pe) (i := 2) hND hev (.inl hvl) (.inr hvl)) (hsw _ rfl) (hswb _)) (hrest s' H1 hr'))
      refine ⟨_, ps.nox, ?_⟩
      refine ⟨Nat.zero_le _, fun l nl => ?_⟩
      obtain ⟨hT', hh⟩ := h H1 eN eR T1 f l nl
      refine ⟨hT', fun H2 eN2 eR2 T2 => ?_⟩
      have hl2 : H2 l = some (.lst []) := eN2 l _ upd_same (by intro ps e; cases e)
      have hc2 : H2 c' = some (CodeO c' (X.env.qual ++ "<lambda>")) := eN2 c' _ (by rw [upd_ne (ne_of_none hco nl)]; exact hco) codeO_ne
      refine ⟨.ref l, by rw [hst]; rfl, .inl ⟨rfl, [], ?_⟩, by rw [hst]; rfl, hc2, hh H2 eN2 eR2 T2⟩
      first | exact hl2 | exact .inl hl2 | exact .inl (.inl hl2) | exact .inl (.inl (.inl hl2))
    · have bM : Un (frs X.stack) [] H1 HM s'.heap sM.heap := IM.base
      have hz' : ∀ z, z ∈ frs (cxOf C8.CX0 X.prog X.w X.K X.mg X.base Nt x sg g (.ref ct2) X.A X.stack s' H1 C8.E0).nox.stack → z ∉ frs X.stack → s'.heap.get? z = none := fun z hz2 hn => by
        rcases List.mem_cons.mp (show z ∈ s'.heap.objs.size :: frs X.stack from hz2) with e | e
        · subst e
          cases hq : s'.heap.get? s'.heap.objs.size with
          | none => rfl
          | some o => exact absurd (Heap.lt_size hq) (Nat.lt_irrefl _)
        · exact absurd e hn
      have hu2' : Un (frs X.stack) [] H1 H2 s'.heap s2.heap := un_comp bM un hz'
      have hfz : ∀ z, z ∈ frs outer → z ∉ frs X.stack → s'.heap.get? z = none := fun z hz2 hn => by
        by_cases hzz : z ∈ frs (cxOf C8.CX0 X.prog X.w X.K X.mg X.base Nt x sg g (.ref ct2) X.A X.stack s' H1 C8.E0).nox.stack
        · exact hz' z hzz hn
        · have h1 := hz z hz2 hzz
          cases hq : s'.heap.get? z with
          | none => rfl
          | some o =>
            obtain ⟨o', q'⟩ := bM.there z o hq (fun w => nomatch (show z ∈ ([] : List Addr) from w))
            rw [h1] at q'; cases q'
      have pa := pe_act3 (X := X) (Z := (cxOf C8.CX0 X.prog X.w X.K X.mg X.base Nt x sg g (.ref ct2) X.A X.stack s' H1 C8.E0).nox) (A2 := A) (outer2 := outer) (s2 := s2) (H2 := H2) (scope2 := scope2) (f2 := f2) (c2 := c2) (i := 0) (p1 := pac) (p2 := pcc) ⟨rfl, rfl, rfl, rfl, rfl⟩ I1 L hf hfn hfr (hbind _ _ _ _ _) hu2' hfz hr2 (fun A outer s H hr => hbody A outer s H E f c' hr) hNt hva hda hca
      exact pe_bm PySem.F.plainAttrs_list PySem.F.slot_list_append PySem.F.type_list_append mt_append (pe_var (i := 1) hfv hvf hdf hcf) (pa_cons pa pa_nil rfl) rfl rfl hline rfl
  refine wpAny_call (codeAny_mono rc fun r s2 hq => ?_)
  cases r with
  | error e => exact (show False from hq).elim
  | ok fl =>
    cases fl with
    | ret u => exact I1.after hq
    | next => exact False.elim hq
    | brk => exact False.elim hq
    | cont => exact False.elim hq
end
end DL
set_option Elab.async false
set_option linter.all false
set_option maxRecDepth 100000
set_option maxHeartbeats 400000
set_option autoImplicit false
/-! DL: told(lambda: work), told keeps what the work gives in a list of its own: readings -/
namespace DL
open PySem PySem.Spec PyProof.Rows L2 LamX
variable {S : Type}
def runF (rd : Env → M S Flw) (ds : List D) (d : D) : M S D := fun s => match rd [none, some (.own ds), some (.val d), none] s with
  | .ok (.rt x) s' => .ok x s'
  | .ok (.nx _) s' => .ok .non s'
  | _ => .stk
def toldF (xs : List Str) (τ : Env → M S D) (rd : Env → M S Flw) : Env → M S D := fun env s => match τ (hide env) s with
  | .ok d s' => runF rd [d] .non s'
  | .err (.exc c fs) s' => if c ∈ xs then runF rd [] (.exc c fs) s' else .stk
  | _ => .stk
/-- the rest of such a def, from the ground where it begins -/
def tRg (C : Cc S) (rd : Env → M S Flw) (H0 : Hp) : TS := fun D σ H => ∃ G0, tS (fxOf C G0 H0 C8.E0) rd D σ H
theorem pss_rg {X : Cx} {C : Cc S} {rd : Env → M S Flw} {b : List Stmt} {H0 : Hp} (h : ∀ G H : Hp, PSs X b (tS (fxOf C G H C8.E0) rd)) : PSs X b (tRg C rd H0) := ⟨fun pins s σ H D I ⟨G, q⟩ => (h G H0).run pins s σ H D I q⟩
section
variable {X : Cx} {F : Fx S}
theorem told4_of {T : List (Addr × Str)} {SE : Addr} {xs : List Str} {τ : Env → M S D} {rd : Env → M S Flw} {Nt : List Str} (W : TabW F T) (hx : ∀ c ∈ xs, PySem.W.exmOne X.K (.ref (F.cad c)) (.ref SE) = some true)
    (hst : ∀ f : Addr, L2.start Nt [V.ref f] = [some (V.ref f), none, none, none]) (σ : L2.St) (H : Hp) (Q : VK) (h : tE F (toldF xs τ rd) σ H Q) :
    tLamR T (TTkeep T X.K SE Nt (tRg F.toCc rd)) (fun E => tLb F.toCc τ E) σ H Q := by
  obtain ⟨G, env, s, st, p⟩ := h
  refine ⟨W.at_ _ _ st.gd.w, fun H1 eN eR hT1 f l nl => ?_⟩
  have nl0 : H l = none := eR l nl
  have keep1 : ∀ b o, H1 b = some o → upd H1 l (.lst []) b = some o := fun b o e => by rw [upd_ne (ne_of_none e nl)]; exact e
  have hT' : Tabs T (upd H1 l (.lst [])) := hT1.ext keep1
  refine ⟨hT', fun H2 eN2 eR2 hT2 => ?_⟩
  have eT : ExtN H1 H2 := (ExtN.of keep1).trans eN2
  have nR : ∀ b, H2 b = none → H1 b = none := fun b e => by
    have := eR2 b e
    by_cases q : b = l
    · subst q; exact nl
    · rw [upd_ne q] at this; exact this
  have hl2 : H2 l = some (.lst []) := eN2 l _ upd_same (by intro ps e; cases e)
  have nrl : ¬ F.reg l := fun z => by
    obtain ⟨o, q⟩ := F.there s H l st.gd.w z
    rw [nl0] at q; cases q
  have nGl : G l = none := st.gd.gh.free nl0
  have e1 : Ext F.reg G H G H1 := ⟨fun _ _ h => h, fun a o h _ n => eN a o h n, fun _ _ h => .inl h, eR⟩
  have g1 : Gd F.toCc G H1 s := ⟨fun b o e => eN b o (st.gd.gh b o e) (st.gd.nt b o e), W.put _ _ _ st.gd.w eN hT1, st.gd.gr, st.gd.nt⟩
  have g2 : Gd F.toCc G H2 s := ⟨fun b o e => eT b o (g1.gh b o e) (st.gd.nt b o e), W.put _ _ _ st.gd.w (eN.trans eT) hT2, st.gd.gr, st.gd.nt⟩
  have e2 : Ext F.reg G H1 G H2 := ⟨fun _ _ h => h, fun a o h _ n => eT a o h n, fun _ _ h => .inl h, nR⟩
  have st1 := st.ext' e1 g1
  have st2 := st1.ext' e2 g2
  -- the rest
  have fin : ∀ (ds : List D) (vs : List V) (d : D) (v : V) (s' : S) (G' H' : Hp), Ext F.reg G H1 G' H' → Gd F.toCc G' H' s' → H' l = some (.lst vs) → RepL F.toCc G' ds vs → vs.length ≤ sizeLine → G' l = none → Rep F.toCc G' d v → Post F G H (runF rd ds d s') (K1 F G H σ env Q) →
      tRg F.toCc rd H1 { nx := fun _ H'' => Q .non H'', rt := Q } (((L2.start Nt [.ref f]).set 1 (some (.ref l))).set 2 (some v)) H' := fun ds vs d v s' G' H' e' g' hl' rl hz nG' rv p => by
    rw [hst]
    refine ⟨G, G', [none, some (.own ds), some (.val d), none], s', ⟨e', g', ?_⟩, ?_⟩
    · refine ⟨rfl, fun i sl hi => ?_, fun i j ne hi hj => ?_⟩
      · match i, hi with
        | 0, hi => cases hi; exact ⟨_, rfl, trivial⟩
        | 1, hi => cases hi; exact ⟨_, rfl, l, vs, rfl, hl', nG', nrl, nl, hz, rl⟩
        | 2, hi => cases hi; exact ⟨_, rfl, v, rfl, rv⟩
        | 3, hi => cases hi; exact ⟨_, rfl, trivial⟩
        | i + 4, hi => cases hi
      · match i, j, hi, hj, ne with
        | 1, 1, _, _, ne => exact absurd rfl ne
        | 0, _, hi, _, _ => exact hi.elim
        | 2, _, hi, _, _ => exact hi.elim
        | 3, _, hi, _, _ => exact hi.elim
        | i + 4, _, hi, _, _ => exact hi.elim
        | 1, 0, _, hj, _ => exact hj.elim
        | 1, 2, _, hj, _ => exact hj.elim
        | 1, 3, _, hj, _ => exact hj.elim
        | 1, j + 4, _, hj, _ => exact hj.elim
    · unfold runF at p
      cases q2 : rd [none, some (.own ds), some (.val d), none] s' with
      | stk => rw [q2] at p; exact p.elim
      | err e s2 => rw [q2] at p; exact p.elim
      | ok fl s2 =>
        rw [q2] at p
        cases fl with
        | bk e => exact p.elim
        | ct e => exact p.elim
        | nx e =>
          intro σ2 G2 H2' _ stf
          have ef : Ext F.reg G H1 G2 H2' := stf.ext
          exact p .non G2 H2' (e1.trans ef) (st1.ext' ef stf.gd) rfl
        | rt x =>
          intro v2 G2 H2' _ ef gf rf
          have ef : Ext F.reg G H1 G2 H2' := ef
          exact p v2 G2 H2' (e1.trans ef) (st1.ext' ef gf) rf
  refine ⟨G, G, hide env, s, ⟨Ext.refl _ _ _, g2, repEnv_hide st2.env_⟩, ?_⟩
  have p : Post F G H (toldF xs τ rd env s) _ := p
  unfold toldF at p
  cases q : τ (hide env) s with
  | stk => rw [q] at p; exact p.elim
  | ok d s' =>
    rw [q] at p
    intro v G' H' e' st' r'
    have e' : Ext F.reg G H2 G' H' := e'
    have g' : Gd F.toCc G' H' s' := st'.gd
    have hl' : H' l = some (.lst []) := e'.fr l _ hl2 nrl (by intro ps e; cases e)
    have nG' : G' l = none := e'.un hl2 nGl nrl
    refine ⟨l, [], v, rfl, rfl, hl', by show 0 < sizeLine; decide, ?_⟩
    have e12 := e2.trans e'
    refine fin [d] [v] .non .non s' G' _ ⟨e12.g, fun a o ha na nt => ?_, e12.nw, fun b hb => ?_⟩ (g'.write hl' nG' nrl _) upd_same (RepL.one r') (by show 1 ≤ sizeLine; decide) nG' rfl p
    · rw [upd_ne (fun z => by rw [z, nl] at ha; cases ha)]
      exact e12.fr a o ha na nt
    · by_cases qb : b = l
      · subst qb; exact nl
      · rw [upd_ne qb] at hb; exact e12.tr b hb
  | err x s' =>
    rw [q] at p
    intro cls dd σ' G' H' sm e' gd' rx
    cases x with
    | exc c fs =>
      have rx : cls = .ref (F.cad c) ∧ ((fs = [] ∧ dd = none) ∨ ∃ d vs, dd = some d ∧ G' d = some (.xd vs) ∧ RepF F.toCc G' fs vs) := rx
      obtain ⟨rfl, rx2⟩ := rx
      by_cases hc : c ∈ xs
      · have p : Post F G H ((if c ∈ xs then runF rd [] (.exc c fs) s' else .stk : Res S D)) _ := p
        rw [if_pos hc] at p
        refine ⟨F.cad c, rfl, hx c hc, fun a na => ?_⟩
        have e' : Ext F.reg G H2 G' H' := e'
        have hl' : H' l = some (.lst []) := e'.fr l _ hl2 nrl (by intro ps e; cases e)
        have nG' : G' l = none := e'.un hl2 nGl nrl
        have hal : l ≠ a := fun z => by rw [z, na] at hl'; cases hl'
        obtain ⟨g3, e3⟩ := gd'.new na (exv a (F.cad c) dd) (by intro _ h; cases h)
        have e3 : Ext F.reg G' H' _ _ := e3
        refine fin [] [] (.exc c fs) (.ref a) s' _ _ ((e2.trans e').trans e3) g3 (by rw [upd_ne hal]; exact hl') rfl (Nat.zero_le _) (by rw [upd_ne hal]; exact nG') ⟨a, dd, rfl, upd_same, ?_⟩ p
        exact rx2.elim (fun z => .inl z) fun ⟨d, vs, z1, z2, z3⟩ => .inr ⟨d, vs, z1, e3.g _ _ z2, z3.mono e3.g⟩
      · have p : Post F G H ((if c ∈ xs then runF rd [] (.exc c fs) s' else .stk : Res S D)) _ := p
        rw [if_neg hc] at p
        exact p.elim
    | _ => exact rx.elim
end
section
variable {X : Cx} {F : Fx S}
theorem de_told4 {T : List (Addr × Str)} {x y a b fv ev : Str} {g gc c P ct2 P2 SE : Addr} {k : Nat} {stm stmc : Stmt} {fd fdc : FuncData} {Nt Ng : List Str} {xs : List Str} {τ : Env → M S D} {rd : Env → M S Flw} {rest : List Stmt}
    {params params2 : Arguments} {body : Expr} {scope scope2 : Scope} {p lpos pos py pyp pe pas pf pl pfs pfa apos pac pcc pcp lpos2 : Pos} (Fn : Fun X.K x x stm g fd) (hc2 : fd.code = .ref ct2) (Sg : FnScope Nt [a] (defScope stm)) (hb : L2.Binds X.K fd [a] []) (hg : Gl X x) (hm : X.mg x = some (.ref g)) (hNt : Nt[0]? = some a)
    (hbt : defBody stm = .Assign [.Name fv pf] (.List [] pl) pfs :: .Assign [.Name ev pe] (.Call (.Name y py) [.Lambda params2 (.Call (.Attribute (.Name fv pfa) "append" apos) [.Call (.Name a pac) [] [] pcc] [] pcp) scope2 lpos2] [] pyp) pas :: rest)
    (hva : Vis scope2 a) (hvf : Vis scope2 fv)
    (Fc : Fun X.K y y stmc gc fdc) (Sc : FnScope Ng [b] (defScope stmc)) (hbc : L2.Binds X.K fdc [b] []) (hgy : (defScope stm).names.lookup y = some .globalImplicit) (hmy : X.mg y = some (.ref gc)) (hNg : Ng[0]? = some b) (hvb : Vis (defScope stmc) b)
    (hG : ∀ (cdc : Value) (s : Shared) (H : Hp), GivesTo (cxOf C8.CX0 X.prog X.w X.K X.mg X.base Nt x (defScope stm) g (.ref ct2) X.A X.stack s H C8.E0).nox Ng y (defScope stmc) gc cdc (defBody stmc) b ((cxOf C8.CX0 X.prog X.w X.K X.mg X.base Nt x (defScope stm) g (.ref ct2) X.A X.stack s H C8.E0).nox.env.qual ++ "<lambda>") (TKeep X.K (.ref SE)))
    (hrest : ∀ (s : Shared) (H : Hp), Room (k + 3) (X.A.deeper (envOfC x (defScope stm) s.heap.objs.size g (.ref ct2))) → ∀ G1 H1 : Hp, PSs (cxOf C8.CX0 X.prog X.w X.K X.mg X.base Nt x (defScope stm) g (.ref ct2) X.A X.stack s H C8.E0).nox rest (tS (fxOf F.toCc G1 H1 C8.E0) rd))
    (hND : Nt.Nodup) (hfv : Nt[1]? = some fv) (hlf : (defScope stm).names.lookup fv = some .cell) (hev : Nt[2]? = some ev) (hvl : (defScope stm).names.lookup ev = some .local) (hst : ∀ f : Addr, L2.start Nt [V.ref f] = [some (V.ref f), none, none, none])
    (hsw0 : ∀ env : PySem.Env, env.scope = defScope stm → swapsWithSole [.Name fv pf] (.List [] pl) pfs.line env = pure false) (hswb0 : ∀ env : PySem.Env, swappedStores [.Name fv pf] (.List [] pl) env = pure none)
    (hsw : ∀ env : PySem.Env, env.scope = defScope stm → swapsWithSole [.Name ev pe] (.Call (.Name y py) [.Lambda params2 (.Call (.Attribute (.Name fv pfa) "append" apos) [.Call (.Name a pac) [] [] pcc] [] pcp) scope2 lpos2] [] pyp) pas.line env = pure false)
    (hswb : ∀ env : PySem.Env, swappedStores [.Name ev pe] (.Call (.Name y py) [.Lambda params2 (.Call (.Attribute (.Name fv pfa) "append" apos) [.Call (.Name a pac) [] [] pcc] [] pcp) scope2 lpos2] [] pyp) env = pure none)
    (hline : (apos.endLine == pcp.line) = true)
    (TB : TabB X.base X.mg c P) (hcode : X.env.code = .ref c) (hmT : (P, X.env.qual ++ "<lambda>") ∈ T) (hu : ∀ p ∈ T, p.1 = P → p.2 = X.env.qual ++ "<lambda>") (W : TabW F T) (hx : ∀ c ∈ xs, PySem.W.exmOne X.K (.ref (F.cad c)) (.ref SE) = some true)
    (hr : Room (k + 4) X.A) (L : LamS X.env.scope scope) (hdef : defaultsOf params X.env = ([], []))
    (hbind : ∀ (q : Str) (cl : List (Str × Addr)) (pm cv ctv : Value), bindArgs (PySem.W.kla_fn "<lambda>" q params body scope cl pm cv ctv) ⟨[], []⟩ = pure [])
    (hbody : ∀ (A : Around) (outer : List PySem.Env) (s : Shared) (H0 : Hp) (E : XK) (f c' : Addr), Room k (A.deeper (lamEnv X scope s.heap.objs.size f c')) → ∀ G H : Hp, PE (lamCx X A outer s H0 E scope f c') body (tE (fxOf F.toCc G H E) τ))
    (TB2 : TabB X.base X.mg ct2 P2) (hmT2 : ∀ (s : Shared) (H : Hp), (P2, (cxOf C8.CX0 X.prog X.w X.K X.mg X.base Nt x (defScope stm) g (.ref ct2) X.A X.stack s H C8.E0).nox.env.qual ++ "<lambda>") ∈ T) (hu2 : ∀ (s : Shared) (H : Hp), ∀ p ∈ T, p.1 = P2 → p.2 = (cxOf C8.CX0 X.prog X.w X.K X.mg X.base Nt x (defScope stm) g (.ref ct2) X.A X.stack s H C8.E0).nox.env.qual ++ "<lambda>") (L2' : LamS (defScope stm) scope2) (hdef2 : ∀ env : PySem.Env, defaultsOf params2 env = ([], []))
    (hbind2 : ∀ (q : Str) (cl : List (Str × Addr)) (pm cv ctv : Value), bindArgs (PySem.W.kla_fn "<lambda>" q params2 (.Call (.Attribute (.Name fv pfa) "append" apos) [.Call (.Name a pac) [] [] pcc] [] pcp) scope2 cl pm cv ctv) ⟨[], []⟩ = pure [])
    (hdx : (x == ("__debug__" : Str)) = false := by decide) (hdy : (y == ("__debug__" : Str)) = false := by decide) (hda : (a == ("__debug__" : Str)) = false := by decide) (hca : (a == ("__classdict__" : Str)) = false := by decide) (hdb : (b == ("__debug__" : Str)) = false := by decide) (hcb : (b == ("__classdict__" : Str)) = false := by decide) (hdf : (fv == ("__debug__" : Str)) = false := by decide) (hcf : (fv == ("__classdict__" : Str)) = false := by decide) :
    PE X (.Call (.Name x p) [.Lambda params body scope lpos] [] pos) (tE F (toldF xs τ rd)) := by
  obtain ⟨oc, od, kV, doc, pm, an, cdv, ct, osl, rfl, lk, hcd⟩ := Fn.ex
  have hc2 : cdv = .ref ct2 := hc2
  subst hc2
  obtain ⟨occ, odc, kVc, docc, pmc, anc, cdc, ctc, oslc, rfl, lkc, hcdc⟩ := Fc.ex
  rw [hbt] at lk hb
  exact pe_mono (pe_told4 (T := T) (rest := rest) hg hm Fn.kp lk hcd hb Sg hNt hva hvf hgy hmy Fc.kp lkc hcdc hbc Sc hNg hvb (fun s H => hG cdc s H) (fun s H hr' => pss_rg (hrest s H hr')) hND hfv hlf hev hvl hst hsw0 hswb0 hsw hswb hline TB hcode hmT hu hr L hdef hbind
    (fun A outer s H E f c' hr => pe_lb (hbody A outer s H E f c' hr)) TB2 hmT2 hu2 L2' hdef2 hbind2 hdx hdy hda hca hdb hcb hdf hcf) (told4_of W hx hst)
end
end DL
set_option Elab.async false
set_option linter.all false
set_option maxRecDepth 100000
set_option maxHeartbeats 1000000
set_option autoImplicit false
/-! DL: marks.count(True), marks.index(True) -/
namespace DL
open PySem PySem.Spec PyProof.Rows L2
section
variable {S : Type} {X : Cx} {F : Fx S}
theorem dp_bls (K : PySem.W.Frag) (H : Hp) : ∀ bs : List Bool, DpAll K H (bs.map V.bl) (bs.map PyData.bool)
  | [] => .nil
  | b :: bs => .cons (.bl b) (dp_bls K H bs)
theorem count_bls (k : Bool) : ∀ bs : List Bool, countIn (.bool k) (bs.map PyData.bool) = (bs.count k : Int)
  | [] => rfl
  | b :: bs => by
    rw [List.map_cons, countIn, count_bls k bs, List.count_cons]
    simp only [same]
    cases b <;> cases k <;> simp <;> omega
theorem mt_countB : MtR X "list.count" (fun x vs H Q => ∃ (l : Addr) (bs : List Bool) (k : Bool), x = .ref l ∧ vs = [.bl k] ∧ SqL X.K H l (bs.map V.bl) ∧ Q (.int (bs.count k : Nat)) H) := by
  intro pins s σ H x vs v us Q I rx rv h
  obtain ⟨l, bs, k, rfl, rfl, hq, q⟩ := h
  cases rx
  obtain ⟨u, rfl, r1⟩ := vals1 rv
  obtain rfl : u = Value.bool k := r1
  obtain ⟨its, r, pl, hz⟩ := I.list hq
  obtain ⟨as, ra⟩ := Dp.readsAll I _ _ its (dp_bls X.K H bs) r
  refine PyProof.Rows.count_list_bools pl.isList ra (by rw [List.all_map]; exact List.all_eq_true.mpr fun _ _ => rfl) ?_
  rw [count_bls]
  exact ⟨.int (bs.count k : Nat), H, I.tok _, ⟨_, rfl⟩, q⟩
def cntB (τ υ : Env → M S D) : Env → M S D := fun env => do
  let o ← τ env
  onLst (fun ds => do
    let k ← υ env
    (match k with
    | .bl k => (match blsD ds with
      | some bs => pure (.int (bs.count k : Nat))
      | none => stk)
    | _ => stk)) o
theorem de_cntB {o e : Expr} {τ υ : Env → M S D} {apos cpos : Pos} (ho : PE X o (tE F τ)) (he : PE X e (tE F υ))
    (hbase : attributeBase o "count" X.env (eval o X.env) = eval o X.env := by rfl)
    (hfew : ((backTo cpos (starEach [e] X.env)).all (fun x => !x.1) && (backToKw cpos (keywordEach [] X.env)).all (fun x => x.1.isSome)
      && decide (([e] : List Expr).length + ([] : List Keyword).length + (if ([] : List Keyword).isEmpty then 0 else 1) < 30)) = true := by rfl)
    (hline : (apos.endLine == cpos.line) = true := by rfl) (hst : starEach [e] X.env = (false, eval e X.env) :: starEach [] X.env := by rfl) :
    PE X (.Call (.Attribute o "count" apos) [e] [] cpos) (tE F (cntB τ υ)) :=
  pe_mono (pe_bm PySem.F.plainAttrs_list PySem.F.slot_list_count PySem.F.type_list_count (mt_countB) ho (pa_cons he pa_nil hst) hbase hfew hline hst) fun σ H Q ⟨G, env, s, st, p⟩ => by
    refine seqE st p fun d s1 v G1 H1 e1 st1 r1 p1 => ?_
    obtain ⟨ds, rfl, p2⟩ := p1.onLst
    obtain ⟨a, vs, rfl, ha, hz, rl⟩ := r1
    refine ⟨.inl ⟨rfl, vs, .inl (.inl (st1.gd.gh _ _ ha))⟩, ?_⟩
    refine seqE st1 p2 fun d s2 v G2 H2 e2 st2 r2 p3 => ?_
    cases d with
    | bl k =>
      cases r2
      cases q : blsD ds with
      | none =>
        simp only [q] at p3; exact p3.elim
      | some bs =>
        simp only [q] at p3
        have e := blsD_rep (rl.mono e2.g) q
        subst e
        exact ⟨a, bs, k, rfl, rfl, .inl (.inl (st2.gd.gh _ _ (e2.g _ _ ha))), p3 _ G2 H2 (e1.trans e2) st2 rfl⟩
    | _ => exact p3.elim
end
end DL
set_option Elab.async false
set_option linter.all false
set_option maxRecDepth 100000
set_option maxHeartbeats 4000000
set_option autoImplicit false
/-! set(xs), xs a list of ints: the library's call_set_tupI (HandS.SetFor), turned to lists -/
namespace DL
open PySem PySem.Spec PyProof.Rows L2
section
variable {P : Program} {w : World} {A : Around} {E : Value → Shared → Prop} {s : Shared}
set_option maxRecDepth 100000 in
set_option maxHeartbeats 3200000 in
theorem call_set_lstI {l : Addr} {items : Array Value} (ns : List Int) {Q : Value → Shared → Prop} (hh : A.handled = none) (hl : s.heap.IsList l items) (hit : IntsAre items.toList ns) (hb : ns.length + 1 < scanBound)
    (h : ∀ (h' : Heap) (tk c : Nat), SetR w h' s.heap.objs.size (fun j => decide (j ∈ ns)) c → c ≤ ns.length → (∀ b o, s.heap.get? b = some o → h'.get? b = some o) → Q (.ref s.heap.objs.size) { s with heap := h', toks := tk }) :
    wpAny (model P w) A (call (.type "set") [.ref l]) Q E s := by
  have hisz : items.size = ns.length := by
    have q := IntsAre.length hit
    rw [Array.length_toList] at q
    exact q
  obtain ⟨c, tl, hmro⟩ := F.called_set.mro
  have hmade := F.called_set.made
  have hsub := F.called_set.sub
  refine wpAny_call (codeAny_of_tree ?_)
  show wpAny _ _ (callAny (.type "set") _) _ _ _
  refine wpAny_pure ⟨Code.quiet_builtin _ (by decide +kernel), codeAny_builtin F.entry_type_call ?_⟩
  rw [Around.under_plain (weight_type_call_type "set" [.ref l] []) rfl]
  have h1 := F.called_set.notType
  have h2 := F.called_set.canCreate
  have hct := F.typeCall_set_1 (.ref l)
  repeat (any_goals (first | assumption | wp_step))

  refine codeAny_mono (code_set_led1 (.ref l) (E := E) (Q₁ := fun obj s₁ => obj = .ref s.heap.objs.size ∧ s₁ = { s with heap := s.heap.push { cls := .type "set", dict := none, data := .set #[] 0 (.fresh 0 0 (!w.params.followText "set-order")) } }) ⟨rfl, rfl⟩) fun r s₁ hr => ?_
  cases r with
  | error e => exact hr
  | ok fl =>
    cases fl with
    | ret obj =>
      obtain ⟨rfl, rfl⟩ := hr
      have hS : (s.heap.push { cls := .type "set", dict := none, data := .set #[] 0 (.fresh 0 0 (!w.params.followText "set-order")) }).get? s.heap.objs.size = some { cls := .type "set", dict := none, data := .set #[] 0 (.fresh 0 0 (!w.params.followText "set-order")) } := Heap.get?_push_size _ rfl
      have hT : Shared.TypeIs { s with heap := s.heap.push { cls := .type "set", dict := none, data := .set #[] 0 (.fresh 0 0 (!w.params.followText "set-order")) } } (.ref s.heap.objs.size) "set" := ⟨_, hS, rfl⟩
      have hli := F.called_set.init.lookup
      have hbi := F.called_set.init.bind (.ref s.heap.objs.size)
      repeat (any_goals (first | assumption | wp_step))

      refine codeAny_mono (codeAny_call_builtin (R := wants (fun r s₂ => r = .none ∧ ∃ h' tk c, s₂ = { s with heap := h', toks := tk } ∧ SetR w h' s.heap.objs.size (fun j => decide (j ∈ ns)) c ∧ c ≤ ns.length ∧
          (∀ b o, s.heap.get? b = some o → h'.get? b = some o)) E) F.called_set.init.plain F.entry_set_init (check_set_init_1 hT ?_)) fun r₂ s₂ hr₂ => ?_
      · obtain ⟨ol, hol, hcl, nl, hdl⟩ := hl
        obtain ⟨ocls, odict, odata, oslots⟩ := ol
        simp only at hcl hdl
        subst hcl; subst hdl
        have hol' : (s.heap.push { cls := .type "set", dict := none, data := .set #[] 0 (.fresh 0 0 (!w.params.followText "set-order")) }).get? l = some { cls := .type "list", dict := odict, data := .seq items nl, slots := oslots } := Heap.get?_push_of_some _ hol
        have hsls := F.sub_list_set
        have hslf := F.sub_list_frozenset
        have hne : (Value.type "list" == Value.type "dict") = false := by decide
        have hl1 : (s.heap.push { cls := .type "set", dict := none, data := .set #[] 0 (.fresh 0 0 (!w.params.followText "set-order")) }).IsList l items := ⟨_, hol', rfl, nl, rfl⟩
        unfold Builtin.«set.__init__» noKeywords Builtin.Frozenset.updateFrom
        generalize hPI : pyIter = PI
        wp_walk
        subst hPI

        refine wpAny_pyIter_list hl1 ?_
        refine wpAny_bind (wpAny_runValue ?_)
        have hlS : l < s.heap.objs.size := Heap.lt_size hol
        have hh3 : A.in1.in1.in1.handled = none := by simp [hh]
        have hz1 : (s.heap.push { cls := .type "set", dict := none, data := .set #[] 0 (.fresh 0 0 (!w.params.followText "set-order")) }).objs.size = s.heap.objs.size + 1 := Heap.size_push ..
        have hneI : l ≠ (s.heap.push { cls := .type "set", dict := none, data := .set #[] 0 (.fresh 0 0 (!w.params.followText "set-order")) }).objs.size := by
          rw [Heap.size_push]; exact Nat.ne_of_lt (Nat.lt_succ_of_lt hlS)
        have hSf : s.heap.objs.size ∉ [(s.heap.push { cls := .type "set", dict := none, data := .set #[] 0 (.fresh 0 0 (!w.params.followText "set-order")) }).objs.size, l] := by
          rw [Heap.size_push]; simp only [List.mem_cons, List.mem_singleton, List.not_mem_nil, or_false, not_or]
          exact ⟨Nat.ne_of_lt (Nat.lt_succ_self _), Nat.ne_of_gt hlS⟩
        have hval : ∀ (i : Nat) (v : Value), items[i]? = some v → ∃ k t, ns[i]? = some k ∧ v = .int k t := fun i v hv => by
          have hi : i < ns.length := by rw [← hisz]; exact (Array.getElem?_eq_some_iff.mp hv).1
          obtain ⟨t, e⟩ := PyProof.Rows.IntsAre.int_at hit i v (by rw [Array.getElem?_toList]; exact hv)
          refine ⟨ns[i], t, List.getElem?_eq_getElem hi, ?_⟩
          rw [e, List.getD_eq_getElem?_getD, List.getElem?_eq_getElem hi] <;> rfl
        refine set_update_ints ((Walks.list hh3 _ l hneI items).toS) s.heap.objs.size
          hSf ns hisz hb hval (items.size - 0) 0 _ (by omega) (Nat.zero_le _)
          ⟨⟨_, Heap.get?_push_size _ rfl, rfl, rfl⟩, (hl1.push _)⟩ ?hS0 ?hR
        case hS0 =>
          have hget : ((s.heap.push { cls := .type "set", dict := none, data := .set #[] 0 (.fresh 0 0 (!w.params.followText "set-order")) }).push { cls := .type "list_iterator", data := .fields #[.ref l, .int 0 0] }).get? s.heap.objs.size
              = some { cls := .type "set", dict := none, data := .set #[] 0 (.fresh 0 0 (!w.params.followText "set-order")) } := Heap.get?_push_of_some _ hS
          exact ⟨0, Nat.le_refl 0, setR_new_at hget⟩
        case hR =>
          intro s' c' hm hc' hS'
          obtain ⟨h', g2, d', tk', os'⟩ := s'
          have eg : g2 = s.gens := hm.gens
          have ed : d' = s.drawn := hm.drawn
          have eo : os' = s.os := hm.os
          subst eg; subst ed; subst eo
          show wpAny _ _ _ _ _ _
          refine wpAny_pure ?_
          show wpAny _ _ (ret Value.none) _ _ _
          rw [hisz] at hc'
          refine wpAny_pure ⟨rfl, h', tk', c', rfl, hS', hc', fun b o e => ?_⟩
          have hb0 : b < s.heap.objs.size := Heap.lt_size e
          have hb1 : b ≠ s.heap.objs.size := Nat.ne_of_lt hb0
          have hb2 : b ≠ (s.heap.push { cls := .type "set", dict := none, data := .set #[] 0 (.fresh 0 0 (!w.params.followText "set-order")) }).objs.size := by
            rw [Heap.size_push]; exact Nat.ne_of_lt (Nat.lt_succ_of_lt hb0)
          exact hm.heap b o (by simp only [List.mem_cons, List.mem_singleton, List.not_mem_nil, or_false, not_or]; exact ⟨hb1, hb2⟩) (Heap.get?_push_of_some _ (Heap.get?_push_of_some _ e))

      · cases r₂ with
        | error e => exact hr₂
        | ok fl₂ =>
          cases fl₂ with
          | ret r =>
            obtain ⟨rfl, h', tk, c', rfl, hS', hc', hk'⟩ := hr₂
            repeat (any_goals (first | assumption | wp_step))
            exact h _ _ _ hS' hc' hk'
          | _ => exact hr₂.elim
    | _ => exact hr.elim
end
end DL
set_option Elab.async false
set_option linter.all false
set_option maxRecDepth 100000
set_option maxHeartbeats 1000000
set_option autoImplicit false
/-! DL: sorted(set(xs)), xs a list of ints -/
namespace DL
open PySem PySem.Spec PyProof.Rows L2
section
variable {P : Program} {w : World} {A : Around} {E : Value → Shared → Prop} {s : Shared} {a : Addr}
/-- the library's sorted_set (HandS.Set), for sets that are not small: with list_sort_treeAny -/
theorem sorted_setB {S : Int → Bool} {n : Nat} {Q : Value → Shared → Prop} (R : SetR w s.heap a S n) (hh : A.handled = none) (hL : n ≤ 4096)
    (hQ : ∀ s' p (out : Array Value) (c : Nat) (ns : List Int), (∀ b o, s.heap.get? b = some o → s'.heap.get? b = some o) → s'.gens = s.gens → s'.os = s.os → s.heap.objs.size ≤ p →
      s'.heap.get? p = some (seqObj "list" out c) → IntsAre out.toList ns → ns.Pairwise (· < ·) → (∀ k, k ∈ ns ↔ S k = true) → ns.length = n → Q (.ref p) s') :
    wpAny (model P w) A (call (.builtin "sorted") [.ref a]) Q E s := by
  obtain ⟨o, es, ep, t, ho, hex, hd, g, nd, hm, hb, hf, hn, hr, hl⟩ := R
  refine Calls.call_function_entry kind_sorted plain_sorted entry_sorted (args_sorted1 _) ?_
  unfold Builtin.«sorted»
  refine wpAny_bind (m := checkCount "sorted" 1 1 _) (wpAny_pure ?_)
  refine wpAny_bind (collect_set (A := A.in1) hh ⟨o, ho, hex.1, hd⟩ hf hb hr hl fun s1 vs k1 hz g1 o1 pm => ?_)
  have hvl : vs.length = n := by rw [pm.length_eq, List.length_map, Array.length_toList]; exact hn
  have hI : IntsAre vs (vs.map Builtin.Re.reRawOf) := ints_of vs fun v hv => by
    obtain ⟨e, he, q⟩ := List.mem_map.mp (pm.mem_iff.mp hv)
    obtain ⟨k, tk, h1, _⟩ := g e he
    exact ⟨k, tk, by rw [← q]; exact h1⟩
  have pk : (vs.map Builtin.Re.reRawOf).Perm (es.toList.map keyOf) := by
    have q := pm.map Builtin.Re.reRawOf
    rw [List.map_map] at q
    exact q
  refine wpAny_bind (wpAny_newList ?_ (by rw [hvl, sizeLine_eq]; omega))
  have hoL : (s1.heap.push (seqObj "list" vs.toArray 0)).get? s1.heap.objs.size = some (seqObj "list" vs.toArray 0) := Heap.get?_push_size _ rfl
  refine wpAny_bind (wpAny_holding (wpAny_call_entry slot_list_sort ⟨_, hoL, rfl⟩ entry_list_sort (list_sort_treeAny hoL hI (by rw [hvl, sizeLine_eq]; omega) fun out ns' a1 a2 a3 => ⟨_, rfl, ?_⟩) (args_list_sort _)))
  obtain ⟨c, hc⟩ := sortedHeap_at (vs := vs) (out := out) hoL
  have pn : ns'.Perm (es.toList.map keyOf) := a2.trans pk
  refine wpAny_pure ⟨_, rfl, hQ _ s1.heap.objs.size out c ns' (fun b u e => ?_) g1 o1 hz hc a1 (lt_of_le_nodup ns' a3 (pn.nodup_iff.mpr nd)) (fun k => by rw [pn.mem_iff, ← hm k]) ?_⟩
  · have q := k1 b u e
    have hlt := Heap.lt_size q
    show (sortedHeap (s1.heap.push (seqObj "list" vs.toArray 0)) s1.heap.objs.size vs out).get? b = some u
    rw [sortedHeap_old (Nat.ne_of_lt hlt) (by rw [size_push']; exact Nat.lt_succ_of_lt hlt)]
    exact Heap.get?_push_of_some _ q
  · rw [pn.length_eq, List.length_map, Array.length_toList]; exact hn
end
section
variable {S : Type} {X : Cx} {F : Fx S}
def tSortSet (K : PySem.W.Frag) (ta : TE) : TE := fun σ H Q => ta σ H fun x H1 => ∃ (l : Addr) (ns : List Int), x = .ref l ∧ SqL K H1 l (ns.map V.int) ∧ ns.length < 4000 ∧
  ∀ (ms : List Int) (p : Addr), ms.Pairwise (· < ·) → (∀ k : Int, k ∈ ms ↔ k ∈ ns) → H1 p = none → Q (.ref p) (upd H1 p (.lst (ms.map V.int)))
theorem pe_sortSet {a : Expr} {ta : TE} {p p2 q pos : Pos} (hg : Gl X "sorted") (hm : X.mg "sorted" = none) (hg2 : Gl X "set") (hm2 : X.mg "set" = none) (ha : PE X a ta) (hc : X.calm = true := by rfl)
    (na : starEach [a] X.env = (false, eval a X.env) :: starEach [] X.env := by rfl) : PE X (.Call (.Name "sorted" p) [.Call (.Name "set" p2) [a] [] q] [] pos) (tSortSet X.K ta) := by
  refine ⟨fun pins s σ H Q I h => ?_⟩
  refine Call_ (ld_blt I hg hm boot_sorted ?_)
  refine PyProof.Rows.callWith_builtin1 (PyProof.Rows.args_cons ?_ rfl) rfl rfl
  refine Call_ (ld_blt I hg2 hm2 boot_set ?_)
  refine PyProof.Rows.callWith_type1 (PyProof.Rows.args_cons (thn (ha.run pins s σ H _ I h) fun v s1 ⟨x, H1, I1, r1, q1⟩ => PyProof.Rows.args_nil ?_) na) na rfl
  obtain ⟨l, ns, rfl, hq, hl, q1⟩ := q1
  cases r1
  obtain ⟨its, r, pl, hz⟩ := I1.list hq
  refine call_set_lstI ns (I1.ok.hd hc) pl.isList (by simpa using RZ.intsAre_vals r) (by unfold scanBound; omega) fun h' tk c hS hcl hk => ?_
  refine PyProof.Rows.args_nil ?_
  have I2 : Inv X pins σ H1 { s1 with heap := h', toks := tk } := I1.kept fun b o e => hk b o e
  refine sorted_setB hS (I2.ok.hd hc) (by omega) fun s' p out c2 ms k g o hp hgp hi hs hmm hlen => ?_
  have hlen2 : (ms.map V.int).length ≤ sizeLine := by rw [List.length_map, hlen, sizeLine_eq]; omega
  have hn : H1 p = none := I2.hok.fresh hp
  have J : Inv X pins σ (upd H1 p (.lst (ms.map V.int))) s' := I2.call' (ch := []) o (Un.laid k hp hn) (I2.hok.laid k hp ⟨hlen2, out.toList, c2, vals_of_ints hi, hgp⟩) (by rw [g]; exact I2.bare) (fun _ z => nomatch z)
  exact ⟨.ref p, _, J, rfl, q1 ms p hs (fun k => by rw [hmm k]; simp) hn⟩
end
def nubI : List Int → List Int
  | [] => []
  | x :: xs => if x ∈ nubI xs then nubI xs else x :: nubI xs
theorem nub_mem {k : Int} : ∀ {ns : List Int}, k ∈ nubI ns ↔ k ∈ ns
  | [] => Iff.rfl
  | x :: xs => by
    have ih := nub_mem (k := k) (ns := xs)
    unfold nubI
    split
    · rename_i h
      rw [ih, List.mem_cons]
      exact ⟨.inr, fun z => z.elim (fun e => e ▸ nub_mem.mp h) id⟩
    · rw [List.mem_cons, List.mem_cons, ih]
theorem nub_nodup : ∀ ns : List Int, (nubI ns).Nodup
  | [] => List.nodup_nil
  | x :: xs => by
    unfold nubI
    split
    · exact nub_nodup xs
    · rename_i h
      exact List.nodup_cons.mpr ⟨h, nub_nodup xs⟩
theorem asc_unique : ∀ {a b : List Int}, a.Pairwise (· < ·) → b.Pairwise (· < ·) → (∀ k, k ∈ a ↔ k ∈ b) → a = b
  | [], [], _, _, _ => rfl
  | [], y :: b, _, _, h => nomatch (h y).mpr List.mem_cons_self
  | x :: a, [], _, _, h => nomatch (h x).mp List.mem_cons_self
  | x :: a, y :: b, ha, hb, h => by
    have ha' := List.pairwise_cons.mp ha
    have hb' := List.pairwise_cons.mp hb
    have e : x = y := by
      rcases List.mem_cons.mp ((h x).mp List.mem_cons_self) with e | hx
      · exact e
      · rcases List.mem_cons.mp ((h y).mpr List.mem_cons_self) with e | hy
        · exact e.symm
        · have := hb'.1 x hx
          have := ha'.1 y hy
          omega
    subst e
    rw [asc_unique ha'.2 hb'.2 fun k => ⟨fun hk => by
      rcases List.mem_cons.mp ((h k).mp (List.mem_cons_of_mem _ hk)) with e | q
      · have := ha'.1 k hk; omega
      · exact q, fun hk => by
      rcases List.mem_cons.mp ((h k).mpr (List.mem_cons_of_mem _ hk)) with e | q
      · have := hb'.1 k hk; omega
      · exact q⟩]
theorem srt_asc0 {l : List Int} (h : l.Nodup) : (srt l).Pairwise (· < ·) := by
  have h1 := srt_sorted l
  have h2 : (srt l).Nodup := (srt_perm l).nodup_iff.mpr h
  have := List.pairwise_and_iff.mpr ⟨h1, h2⟩
  exact this.imp fun {a b} ⟨q1, q2⟩ => by have := q2; omega
section
variable {S : Type} {X : Cx} {F : Fx S}
def sortSetI : D → M S D := onLst fun ds => match intsD ds with
  | some ns => grd (ns.length < 4000) (pure (.lst ((srt (nubI ns)).map D.int)))
  | none => stk
def sortSetD (τ : Env → M S D) : Env → M S D := fun env => do sortSetI (← τ env)
theorem de_sortSet {a : Expr} {τ : Env → M S D} {p p2 q pos : Pos} (hK : X.K = F.K) (hg : Gl X "sorted") (hm : X.mg "sorted" = none) (hg2 : Gl X "set") (hm2 : X.mg "set" = none) (ha : PE X a (tE F τ)) (hc : X.calm = true := by rfl)
    (na : starEach [a] X.env = (false, eval a X.env) :: starEach [] X.env := by rfl) : PE X (.Call (.Name "sorted" p) [.Call (.Name "set" p2) [a] [] q] [] pos) (tE F (sortSetD τ)) := pe_mono (pe_sortSet hg hm hg2 hm2 ha hc na) fun σ H Q ⟨G, env, s, st, p⟩ => by
  rw [hK]
  refine seqE st p fun d s1 v G1 H1 e1 st1 r1 p1 => ?_
  obtain ⟨ds, rfl, p2⟩ := Post.onLst p1
  obtain ⟨a, us, rfl, q, z, rl⟩ := r1
  cases hb : intsD ds with
  | none => rw [hb] at p2; exact p2.elim
  | some bs =>
    rw [hb] at p2
    obtain ⟨h, p3⟩ := Post.grd p2
    have e := intsD_rep rl hb
    subst e
    refine ⟨a, bs, rfl, .inl (.inl (st1.gd.gh _ _ q)), h, fun ms p hms hmm np => ?_⟩
    have em : ms = srt (nubI bs) := asc_unique hms (srt_asc0 (nub_nodup bs)) fun k => by rw [hmm k, (srt_perm _).mem_iff, nub_mem]
    rw [em]
    obtain ⟨e4, st4⟩ := st1.new np (.lst ((srt (nubI bs)).map V.int))
    refine p3 _ _ _ (e1.trans e4) st4 ⟨p, _, rfl, upd_same, ?_, RepL.ints _⟩
    have := (srt_perm (nubI bs)).length_eq
    have h2 : ∀ l : List Int, (nubI l).length ≤ l.length := fun l => by
      induction l with
      | nil => exact Nat.le_refl _
      | cons x l ih =>
        unfold nubI
        split
        · rw [List.length_cons]; omega
        · rw [List.length_cons, List.length_cons]; omega
    have := h2 bs
    rw [List.length_map, sizeLine_eq]; omega
end
end DL
set_option Elab.async false
set_option linter.all false
set_option maxRecDepth 100000
set_option maxHeartbeats 400000
set_option autoImplicit false
/-! DL: an item of a list of one's own; raise C('m'), C without own __init__ -/
namespace DL
open PySem PySem.Spec PyProof.Rows L2
section
variable {S : Type} {X : Cx} {F : Fx S}
def ixO (i : Nat) (κ : Env → M S D) : Env → M S D := fun env => match ownD env i with
  | some ds => do
    match ← κ env with
    | .int k => (match atI ds k with
      | some x => pure x
      | none => stk)
    | _ => stk
  | none => stk
theorem de_ixO {i : Nat} {o e : Expr} {κ : Env → M S D} {pos : Pos} (ho : PE X o (tVar i)) (he : PE X e (tE F κ)) (hs : PlainIx e := by exact fun _ _ => rfl) : PE X (.Subscript o e pos) (tE F (ixO i κ)) := pe_mono (pe_ix ix_seq ho he hs) fun σ H Q ⟨G, env, s, st, p⟩ => by
  have p : Post F G H ((match ownD env i with
    | some ds => do
      match ← κ env with
      | .int k => (match atI ds k with
        | some x => pure x
        | none => stk)
      | _ => stk
    | none => stk : M S D) s) _ := p
  cases q : ownD env i with
  | none => rw [q] at p; exact p.elim
  | some ds =>
    rw [q] at p
    have hi := ownD_at q
    obtain ⟨a, vs, hσ, hH, _, _, _, _, _⟩ := own_at st hi
    refine ⟨.ref a, hσ, ?_⟩
    refine seqE st p fun d s1 v G1 H1 e1 st1 r1 p1 => ?_
    obtain ⟨a', vs1, hσ1, hH1, hG1, nr1, h01, hz1, rl1⟩ := own_at st1 hi
    rw [hσ] at hσ1
    cases hσ1
    cases d with
    | int k =>
      cases hd : atI ds k with
      | none => simp only [hd] at p1; exact p1.elim
      | some x =>
        simp only [hd] at p1
        obtain ⟨w, hw, rw_⟩ := atI_rep rl1 hd
        obtain rfl : v = .int k := r1
        exact .inl ⟨a, vs1, k, w, rfl, rfl, .inl (.inl hH1), hw, p1 w G1 H1 e1 st1 rw_⟩
    | _ => exact p1.elim
/-! ### raise C('m') -/
def sRaise0 (c : Str) : Env → M S Flw := fun _ => throwD (.exc c [])
theorem ds_raise0 {x c m : Str} {C : Addr} {j : Nat} {p p2 pos2 pos : Pos} (hC : F.cad c = C) (q : PySem.W.excIn X.K C He.veBase "ValueError.__new__" = true) (gC : X.mg x = some (.ref C)) (kC : PySem.W.keepIn X.K (.ref C) = true)
    (h1 : PySem.W.subIn X.K (.ref C) (.type "BaseException") = some true) (h2 : PySem.W.typeIn X.K (.ref C) = some (.type "type")) (hg : Gl X x) (hc : X.calm = true) (tk : Takes X F.wish) (hdb : (x == ("__debug__" : Str)) = false := by decide) :
    PS X (.Raise (some (.Call (.Name x p) [.Constant (.str m) j p2] [] pos2)) none pos) (tS F (sRaise0 c)) :=
  ps_mono (ps_raise hc tk (pmk_own PySem.F.excBase_ValueError q gC kC (raises_own h1 h2) hg hdb)) fun D σ H ⟨G, env, s, st, pp⟩ => by
    have pp : ∀ cls dd σ' G' H', Same G G' → Ext F.reg0 F.G0 F.H0 G' H' → Gd F.toCc G' H' s → RepX F.toCc G' (.exc c []) cls dd → F.wish cls dd σ' H' := pp
    exact pp (.ref C) none σ G H (Same.refl _) st.ext st.gd ⟨by rw [hC], .inl ⟨rfl, rfl⟩⟩
end
end DL
set_option Elab.async false
set_option linter.all false
set_option maxRecDepth 100000
set_option maxHeartbeats 400000
set_option autoImplicit false
/-! DL: expressions that look at lists of one's own and hold none; parts of a list of one's own; own.pop(); C(k = v) -/
namespace DL
open PySem PySem.Spec PyProof.Rows L2
/-! ### values without lists -/
end DL
set_option Elab.async false
set_option linter.all false
set_option maxRecDepth 100000
set_option maxHeartbeats 4000000
set_option autoImplicit false
/-! DL: a, b = (a new list), (a value) -/
namespace DL
open PySem PySem.Spec PyProof.Rows L2
section
variable {S : Type} {X : Cx} {F : Fx S}
/-- is None, also of an error -/
def isXD (neg : Bool) : D → D → M S D := fun d e => match d with
  | .exc _ _ => (match e with
    | .non => pure (.bl neg)
    | _ => stk)
  | d => isND neg d e
theorem isXD_of {neg : Bool} {G σ H env s d e x y} {Q : VK} (st : StG F G σ H env s) (rx : Rep F.toCc G d x) (ry : Rep F.toCc G e y) (p : Post F G H (isXD neg d e s) (K1 F G H σ env Q)) : y = .non ∧ Q (.bl (if neg then !decide (x = .non) else decide (x = .non))) H := by
  cases d with
  | exc c fs =>
    cases e with
    | non =>
      refine ⟨ry, ?_⟩
      obtain ⟨a, dd, rfl, _⟩ := rx
      have fin : ∀ b : Bool, (K1 F G H σ env Q) (.bl b) s → Q (.bl b) H := fun b k => k (.bl b) G H (Ext.refl _ _ _) st rfl
      cases neg <;> exact fin _ p
    | _ => exact p.elim
  | _ => exact isND_of st rx ry p
theorem od_isX : OpD F (fun x y H Q => y = .non ∧ Q (.bl (decide (x = .non))) H) (isXD false) := fun G σ H env s d e x y Q st rx ry p => isXD_of st rx ry p
end
end DL
set_option Elab.async false
set_option linter.all false
set_option maxRecDepth 100000
set_option maxHeartbeats 400000
set_option autoImplicit false
/-! DL: x = a comprehension over any thing, as a list of one's own -/
namespace DL
open PySem PySem.Spec PyProof.Rows L2
section
variable {S : Type} {X : Cx} {F : Fx S}
variable {elt tg iter : Expr} {ifs : List Expr} {scope : Scope} {own : List (Str × Nat)} {pos spos : Pos} {g : TG} {ι : Env → M S (List D)} {γ : D → Env → M S Env} {t : Env → M S Bool} {e : Env → M S D}
theorem NxO.ext {i : Nat} {τ : Env → M S D} : NxO (sExt i τ) := fun env s fl s' q => by
  have q : (match env[i]? with
    | some (some (.own _)) => do
      let d ← τ env
      (match env[i]? with
      | some (some (.own ds)) => onLst (fun es => grd (ds.length + es.length ≤ sizeLine) (pure (.nx (env.set i (some (.own (ds ++ es))))))) d
      | _ => stk)
    | _ => stk : M S Flw) s = .ok fl s' := q
  cases hi : env[i]? with
  | none => rw [hi] at q; cases q
  | some sl =>
    rw [hi] at q
    cases sl with
    | none => cases q
    | some sl =>
      cases sl with
      | val _ => cases q
      | obj _ _ => cases q
      | own ds =>
        obtain ⟨d, s1, q1, q2⟩ := bind_ok q
        cases d with
        | lst es =>
          have q2 : grd (ds.length + es.length ≤ sizeLine) (pure (.nx (env.set i (some (.own (ds ++ es)))))) s1 = Res.ok fl s' := q2
          by_cases h : ds.length + es.length ≤ sizeLine
          · rw [grd_pos h] at q2; cases q2; exact ⟨_, rfl⟩
          · unfold grd at q2; rw [if_neg h] at q2; cases q2
        | _ => cases q2
end
end DL
set_option Elab.async false
set_option linter.all false
set_option maxRecDepth 100000
set_option maxHeartbeats 4000000
set_option autoImplicit false
/-! DL: own[i] = e -/
namespace DL
open PySem PySem.Spec PyProof.Rows L2
section
variable {S : Type} {X : Cx} {F : Fx S}
theorem RepL.set {C : Cc S} {G : Hp} : ∀ (n : Nat) {ds : List D} {vs : List V} {d : D} {v : V}, RepL C G ds vs → Rep C G d v → RepL C G (ds.set n d) (vs.set n v)
  | _, [], _, _, _, r, _ => by
    have e1 : _ = [] := r
    subst e1; rfl
  | 0, _ :: _, _, _, _, ⟨_, _, ev, _, b⟩, rd => by subst ev; exact RepL.cons rd b
  | n + 1, _ :: _, _, _, _, ⟨_, _, ev, a, b⟩, rd => by subst ev; exact RepL.cons a (b.set n rd)
end
end DL
set_option Elab.async false
set_option linter.all false
set_option maxRecDepth 100000
set_option maxHeartbeats 1000000
set_option autoImplicit false
/-! DL: comprehensions with two `for`: cmp2, de_lc2 -/
namespace DL
open PySem PySem.Spec PyProof.Rows L2
section
variable {S : Type} {X : Cx} {F : Fx S}
/-- the new list Dl, open -/
structure Acc2 (F : Fx S) (G1 H1 : Hp) (Dl : Addr) (G H : Hp) (acc : List D) : Prop where
  ext : Ext F.reg G1 H1 G H
  h1 : H1 Dl = none
  nr : ¬ F.reg Dl
  at_ : ∃ vs, H Dl = some (.lst vs) ∧ RepL F.toCc G acc vs
  gn : G Dl = none
  len : acc.length ≤ sizeLine
theorem Acc2.go {G1 H1 G H G' H' : Hp} {Dl : Addr} {acc : List D} (A : Acc2 F G1 H1 Dl G H acc) (ex : Ext F.reg G H G' H') : Acc2 F G1 H1 Dl G' H' acc := by
  obtain ⟨vs, hD, rv⟩ := A.at_
  exact ⟨A.ext.trans ex, A.h1, A.nr, ⟨vs, ex.fr _ _ hD A.nr (by intro _ h; cases h), rv.mono ex.g⟩, ex.un hD A.gn A.nr, A.len⟩
theorem Acc2.put {G1 H1 G H : Hp} {Dl : Addr} {acc : List D} {d : D} {v : V} {vs : List V} (A : Acc2 F G1 H1 Dl G H acc) (hD : H Dl = some (.lst vs)) (rv : RepL F.toCc G acc vs) (r : Rep F.toCc G d v) (hl : acc.length < sizeLine) : Acc2 F G1 H1 Dl G (upd H Dl (.lst (vs ++ [v]))) (acc ++ [d]) := by
  refine ⟨⟨A.ext.g, fun b o q n nt => ?_, A.ext.nw, fun b q => ?_⟩, A.h1, A.nr, ⟨_, upd_same, rv.append (RepL.one r)⟩, A.gn, by rw [List.length_append, List.length_singleton]; omega⟩
  · rw [upd_ne (ne_of_none q A.h1)]; exact A.ext.fr b o q n nt
  · by_cases hb : b = Dl
    · subst hb; rw [upd_same] at q; cases q
    · rw [upd_ne hb] at q; exact A.ext.tr b q
end
end DL
set_option Elab.async false
set_option linter.all false
set_option maxRecDepth 100000
set_option maxHeartbeats 1000000
set_option autoImplicit false
/-! DL: {k: v for .. in .. if ..}, keys ints or texts -/
namespace DL
open PySem PySem.Spec PyProof.Rows L2
section
variable {S : Type} {X : Cx} {F : Fx S}
structure AccD (F : Fx S) (G1 H1 : Hp) (Dl : Addr) (G H : Hp) (acc : List (Key × D)) : Prop where
  ext : Ext F.reg G1 H1 G H
  h1 : H1 Dl = none
  nr : ¬ F.reg Dl
  at_ : ∃ vs, H Dl = some (.dK vs) ∧ RepK F.toCc G acc vs
  gn : G Dl = none
theorem AccD.go {G1 H1 G H G' H' : Hp} {Dl : Addr} {acc : List (Key × D)} (A : AccD F G1 H1 Dl G H acc) (ex : Ext F.reg G H G' H') : AccD F G1 H1 Dl G' H' acc := by
  obtain ⟨vs, hD, rv⟩ := A.at_
  exact ⟨A.ext.trans ex, A.h1, A.nr, ⟨vs, ex.fr _ _ hD A.nr (by intro _ h; cases h), rv.mono ex.g⟩, ex.un hD A.gn A.nr⟩
end
end DL
set_option Elab.async false
set_option linter.all false
set_option maxRecDepth 100000
set_option maxHeartbeats 4000000
set_option autoImplicit false
/-! DL: repr of plain data that holds dicts within lists (turned from the library's ReprReads: only a dict must not be sysModules) -/
namespace PySem
open Sem (wp)
mutual
inductive RdS (h : Heap) : Value → PyData → Prop
  | none : RdS h .none .none
  | bool (b : Bool) : RdS h (.bool b) (.bool b)
  | int (i : Int) (t : Tok) : RdS h (.int i t) (.int i)
  | str (x : Str) (t : Tok) : RdS h (.str x t) (.str x)
  | list {a : Addr} {o : Obj} {vs : Array Value} {n : Nat} {xs : List PyData} : h.get? a = some o → o.cls = .type "list" → o.data = .seq vs n → RdSAll h vs.toList xs → RdS h (.ref a) (.list xs)
  | tuple {a : Addr} {o : Obj} {vs : Array Value} {n : Nat} {xs : List PyData} : h.get? a = some o → o.cls = .type "tuple" → o.data = .seq vs n → RdSAll h vs.toList xs → RdS h (.ref a) (.tuple xs)
  | dict {a : Addr} {o : Obj} {es : Array DictEntry} {n : Nat} {kvs : List (PyData × PyData)} : (a == sysModules) = false → h.get? a = some o → o.cls = .type "dict" → o.data = .dict es n → RdSAll h (es.toList.map (·.key)) (kvs.map (·.1)) →
      RdSAll h (es.toList.map (·.val)) (kvs.map (·.2)) → RdS h (.ref a) (.dict kvs)
inductive RdSAll (h : Heap) : List Value → List PyData → Prop
  | nil : RdSAll h [] []
  | cons {v : Value} {vs : List Value} {d : PyData} {ds : List PyData} : RdS h v d → RdSAll h vs ds → RdSAll h (v :: vs) (d :: ds)
end
mutual
theorem RdS.reads {h : Heap} : ∀ {v : Value} {d : PyData}, RdS h v d → ∃ as, Reads h v d as
  | _, _, .none => ⟨_, .none⟩
  | _, _, .bool b => ⟨_, .bool b⟩
  | _, _, .int i t => ⟨_, .int i t⟩
  | _, _, .str x t => ⟨_, .str x t⟩
  | _, _, .list h1 h2 h3 h4 => let ⟨_, r⟩ := RdSAll.reads h4; ⟨_, .list h1 h2 h3 r⟩
  | _, _, .tuple h1 h2 h3 h4 => let ⟨_, r⟩ := RdSAll.reads h4; ⟨_, .tuple h1 h2 h3 r⟩
  | _, _, .dict _ h1 h2 h3 h4 h5 => let ⟨_, r⟩ := RdSAll.reads h4; let ⟨_, q⟩ := RdSAll.reads h5; ⟨_, .dict h1 h2 h3 r q⟩
theorem RdSAll.reads {h : Heap} : ∀ {vs : List Value} {ds : List PyData}, RdSAll h vs ds → ∃ as, ReadsAll h vs ds as
  | _, _, .nil => ⟨_, .nil⟩
  | _, _, .cons a b => let ⟨_, r⟩ := RdS.reads a; let ⟨_, q⟩ := RdSAll.reads b; ⟨_, .cons r q⟩
end
section
variable {prog : Program} {w : World} {h₀ : Heap}
mutual
theorem ReprK.of_rds : ∀ {v : Value} {d : PyData}, RdS h₀ v d → d.showable = true → d.shown.length ≤ sizeLine → ∃ bs, ReadAtMost h₀ d.depth bs ∧ ReprK prog w bs h₀ d.depth v d.shown
  | _, _, .none, _, _ => ⟨[], (fun _ h => nomatch h), by simp only [PyData.shown]; exact .of_is ReprIs.none _ _ _⟩
  | _, _, .bool b, _, _ => ⟨[], (fun _ h => nomatch h), by simp only [PyData.shown]; exact .of_is (ReprIs.bool b) _ _ _⟩
  | _, _, .int i t, hs, _ => ⟨[], (fun _ h => nomatch h), by simp only [PyData.shown]; exact .of_is (ReprIs.int t (by simpa [PyData.showable] using hs)) _ _ _⟩
  | _, _, .str x t, _, hz => ⟨[], (fun _ h => nomatch h), by simp only [PyData.shown]; exact .of_is (ReprIs.str x t (by simpa only [PyData.shown] using hz)) _ _ _⟩
  | _, _, .list (a := a) (vs := vs) (xs := xs) h1 h2 h3 h4, hs, hz => by
    have hz' : (listText (PyData.shownAll xs)).length ≤ sizeLine := by simpa only [PyData.shown] using hz
    obtain ⟨bs, hb, hk⟩ := ReprAllK.of_rdsAll h4 (by simpa [PyData.showable] using hs) (fun t ht => Nat.le_trans (listText_mem_le ht) hz')
    obtain ⟨as, r⟩ := RdS.reads (.list h1 h2 h3 h4)
    have hna : a ∉ bs := not_mem_of_deeper r (by simp only [PyData.depth]; omega) hb
    refine ⟨a :: bs, ReadAtMost.cons r (by simp only [PyData.depth]; omega) hb, ?_⟩
    simp only [PyData.depth, PyData.shown]
    obtain ⟨l⟩ := vs
    cases l with
    | nil =>
      have h4' : RdSAll h₀ [] xs := h4
      cases h4'
      simp only [PyData.shownAll, listText_nil]
      exact ReprK.listEmpty h1 h2 h3
    | cons x l => exact ReprK.list h1 h2 h3 hna (by simpa using hk.length_eq) (fun i y e => hk.item i y (by simpa using e))
  | _, _, .tuple (a := a) (xs := xs) h1 h2 h3 h4, hs, hz => by
    have hz' : (tupleText (PyData.shownAll xs)).length ≤ sizeLine := by simpa only [PyData.shown] using hz
    obtain ⟨bs, hb, hk⟩ := ReprAllK.of_rdsAll h4 (by simpa [PyData.showable] using hs) (fun t ht => Nat.le_trans (tupleText_mem_le ht) hz')
    obtain ⟨as, r⟩ := RdS.reads (.tuple h1 h2 h3 h4)
    have hna : a ∉ bs := not_mem_of_deeper r (by simp only [PyData.depth]; omega) hb
    refine ⟨a :: bs, ReadAtMost.cons r (by simp only [PyData.depth]; omega) hb, ?_⟩
    simp only [PyData.depth, PyData.shown]
    exact ReprK.tuple h1 h2 h3 hna hk
  | _, _, .dict (a := a) (es := es) (kvs := kvs) hsys h1 h2 h3 h4 h5, hs, hz => by
    have hz' : (dictText (PyData.shownKv kvs)).length ≤ sizeLine := by simpa only [PyData.shown] using hz
    obtain ⟨hs1, hs2⟩ := PyData.showableKv_split kvs (by simpa [PyData.showable] using hs)
    obtain ⟨b1, hb1, k1⟩ := ReprAllK.of_rdsAll h4 hs1 (fun t ht => let ⟨p, hp, hl⟩ := PyData.shownKv_key_le kvs t ht; Nat.le_trans hl (Nat.le_trans (dictText_mem_le hp) hz'))
    obtain ⟨b2, hb2, k2⟩ := ReprAllK.of_rdsAll h5 hs2 (fun t ht => let ⟨p, hp, hl⟩ := PyData.shownKv_val_le kvs t ht; Nat.le_trans hl (Nat.le_trans (dictText_mem_le hp) hz'))
    obtain ⟨as, r⟩ := RdS.reads (.dict hsys h1 h2 h3 h4 h5)
    have hb : ReadAtMost h₀ (PyData.depthKv kvs) (b1 ++ b2) := (hb1.mono (PyData.depthAll_keys_le kvs)).append (hb2.mono (PyData.depthAll_vals_le kvs))
    have hna : a ∉ b1 ++ b2 := not_mem_of_deeper r (by simp only [PyData.depth]; omega) hb
    refine ⟨a :: (b1 ++ b2), ReadAtMost.cons r (by simp only [PyData.depth]; omega) hb, ?_⟩
    simp only [PyData.depth, PyData.shown, PyData.shownKv_eq]
    exact ReprK.dict h1 h2 h3 hsys hna (ReprEntriesK.of_two es.toList _ _
      (k1.more_le (fun b hb => List.mem_append_left _ hb) (PyData.depthAll_keys_le kvs)) (k2.more_le (fun b hb => List.mem_append_right _ hb) (PyData.depthAll_vals_le kvs)))
theorem ReprAllK.of_rdsAll : ∀ {vs : List Value} {ds : List PyData}, RdSAll h₀ vs ds → PyData.showableAll ds = true → (∀ t ∈ PyData.shownAll ds, t.length ≤ sizeLine) →
    ∃ bs, ReadAtMost h₀ (PyData.depthAll ds) bs ∧ ReprAllK prog w bs h₀ (PyData.depthAll ds) vs (PyData.shownAll ds)
  | _, _, .nil, _, _ => ⟨[], (fun _ h => nomatch h), by simp only [PyData.shownAll]; exact .nil⟩
  | _, _, .cons (d := d) (ds := ds) r rs, hs, hz => by
    have hs' : d.showable = true ∧ PyData.showableAll ds = true := by simpa [PyData.showableAll] using hs
    obtain ⟨b1, hb1, k1⟩ := ReprK.of_rds r hs'.1 (hz _ (by simp only [PyData.shownAll]; exact List.mem_cons_self ..))
    obtain ⟨b2, hb2, k2⟩ := ReprAllK.of_rdsAll rs hs'.2 (fun t ht => hz t (by simp only [PyData.shownAll]; exact List.mem_cons_of_mem _ ht))
    refine ⟨b1 ++ b2, ?_, ?_⟩
    · intro b hm
      simp only [PyData.depthAll]
      rcases List.mem_append.mp hm with hm | hm
      · obtain ⟨d', as', r', hd'⟩ := hb1 b hm
        exact ⟨d', as', r', Nat.le_trans hd' (Nat.le_max_left _ _)⟩
      · obtain ⟨d', as', r', hd'⟩ := hb2 b hm
        exact ⟨d', as', r', Nat.le_trans hd' (Nat.le_max_right _ _)⟩
    · simp only [PyData.depthAll, PyData.shownAll]
      exact .cons ((k1.more fun b hb => List.mem_append_left _ hb).level_le (Nat.le_max_left _ _)) (k2.more_le (fun b hb => List.mem_append_right _ hb) (Nat.le_max_right _ _))
end
end
section
variable {prog : Program} {w : World} {h₀ : Heap} {a : Addr} {d : PyData}
theorem showsBy_of_rds (r : RdS h₀ (.ref a) d) (hs : d.showable = true) (hsz : d.shown.length ≤ sizeLine) : ∃ T idr, ShowsBy prog w h₀ a d T idr := by
  cases r with
  | list h1 h2 h3 h4 =>
    rename_i o vs n xs
    have hz' : (listText (PyData.shownAll xs)).length ≤ sizeLine := by simpa only [PyData.shown] using hsz
    obtain ⟨bs, hb, hk⟩ := ReprAllK.of_rdsAll (prog := prog) (w := w) h4 (by simpa [PyData.showable] using hs) (fun t ht => Nat.le_trans (listText_mem_le ht) hz')
    obtain ⟨as, rr⟩ := RdS.reads (.list h1 h2 h3 h4)
    have hna : a ∉ bs := not_mem_of_deeper rr (by simp only [PyData.depth]; omega) hb
    refine ⟨"list", "list.__repr__", F.slot_list_repr.toG, F.slot_list_str, F.slot_list_format, fun s hk0 => ⟨o, hk0 _ _ h1, h2⟩, fun A E s Q hg hu hk0 hQ => ?_⟩
    simp only [PyData.depth] at hu
    simp only [PyData.shown] at hQ
    obtain ⟨l⟩ := vs
    cases l with
    | nil =>
      have h4' : RdSAll h₀ [] xs := h4
      cases h4'
      simp only [PyData.shownAll, listText_nil] at hQ
      exact call_list_repr_empty ⟨o, hk0 _ _ h1, h2⟩ (hk0 _ _ h1) h3 (hQ s.heap _ _ fun _ _ e => e)
    | cons x l =>
      exact call_list_reprK h1 h2 h3 hna (by simpa using hk.length_eq) (fun i y e => hk.item i y (by simpa using e)) hg (fun b _ => Clear.nil b) hu hk0 hQ hz'
  | tuple h1 h2 h3 h4 =>
    rename_i o vs n xs
    have hz' : (tupleText (PyData.shownAll xs)).length ≤ sizeLine := by simpa only [PyData.shown] using hsz
    obtain ⟨bs, hb, hk⟩ := ReprAllK.of_rdsAll (prog := prog) (w := w) h4 (by simpa [PyData.showable] using hs) (fun t ht => Nat.le_trans (tupleText_mem_le ht) hz')
    obtain ⟨as, rr⟩ := RdS.reads (.tuple h1 h2 h3 h4)
    have hna : a ∉ bs := not_mem_of_deeper rr (by simp only [PyData.depth]; omega) hb
    refine ⟨"tuple", "tuple.__repr__", F.slot_tuple_repr, F.slot_tuple_str, F.slot_tuple_format, fun s hk0 => ⟨o, hk0 _ _ h1, h2⟩, fun A E s Q hg hu hk0 hQ => ?_⟩
    simp only [PyData.depth] at hu
    simp only [PyData.shown] at hQ
    exact call_tuple_reprK h1 h2 h3 hna hk hg (fun b _ => Clear.nil b) hu hk0 hQ hz'
  | dict hsys h1 h2 h3 h4 h5 =>
    rename_i o es n kvs
    have hz' : (dictText (PyData.shownKv kvs)).length ≤ sizeLine := by simpa only [PyData.shown] using hsz
    obtain ⟨hs1, hs2⟩ := PyData.showableKv_split kvs (by simpa [PyData.showable] using hs)
    obtain ⟨b1, hb1, k1⟩ := ReprAllK.of_rdsAll (prog := prog) (w := w) h4 hs1 (fun t ht => let ⟨p, hp, hl⟩ := PyData.shownKv_key_le kvs t ht; Nat.le_trans hl (Nat.le_trans (dictText_mem_le hp) hz'))
    obtain ⟨b2, hb2, k2⟩ := ReprAllK.of_rdsAll (prog := prog) (w := w) h5 hs2 (fun t ht => let ⟨p, hp, hl⟩ := PyData.shownKv_val_le kvs t ht; Nat.le_trans hl (Nat.le_trans (dictText_mem_le hp) hz'))
    have hb : ReadAtMost h₀ (PyData.depthKv kvs) (b1 ++ b2) := (hb1.mono (PyData.depthAll_keys_le kvs)).append (hb2.mono (PyData.depthAll_vals_le kvs))
    obtain ⟨as, rr⟩ := RdS.reads (.dict hsys h1 h2 h3 h4 h5)
    have hna : a ∉ b1 ++ b2 := not_mem_of_deeper rr (by simp only [PyData.depth]; omega) hb
    refine ⟨"dict", "dict.__repr__", F.slot_dict_repr, F.slot_dict_str, F.slot_dict_format, fun s hk0 => ⟨o, hk0 _ _ h1, h2⟩, fun A E s Q hg hu hk0 hQ => ?_⟩
    simp only [PyData.depth] at hu
    simp only [PyData.shown, PyData.shownKv_eq] at hQ
    exact call_dict_reprK h1 h2 h3 hsys hna (ReprEntriesK.of_two es.toList _ _
      (k1.more_le (fun b hb => List.mem_append_left _ hb) (PyData.depthAll_keys_le kvs)) (k2.more_le (fun b hb => List.mem_append_right _ hb) (PyData.depthAll_vals_le kvs))) hg (fun b _ => Clear.nil b) hu hk0 hQ (by rw [← PyData.shownKv_eq]; exact hz')
variable {A : Around} {E : Value → Shared → Prop} {s : Shared} {Q : Value → Shared → Prop}
theorem repr_of_rds (r : RdS s.heap (.ref a) d) (hs : d.showable = true) (hg : A.guards = some []) (hu : A.units + (d.depth + 1) < cLine)
    (hQ : ∀ h' u tk, (∀ b o, s.heap.get? b = some o → h'.get? b = some o) → Q (.str d.shown u) { s with heap := h', toks := tk })
    (hsz : d.shown.length ≤ sizeLine) : wpAny (model prog w) A (call (.builtin "repr") [.ref a]) Q E s := by
  obtain ⟨T, idr, S⟩ := showsBy_of_rds (prog := prog) (w := w) r hs hsz
  exact call_repr_slot (by omega) (S.typeIs s fun _ _ e => e) S.slotRepr (S.call A.in1 E s _ hg (by show A.units + 1 + d.depth < cLine; omega) (fun _ _ e => e) fun h' u tk hk => ⟨_, _, rfl, hQ h' u tk hk⟩)
end
end PySem
namespace DL
open PySem PySem.Spec PyProof.Rows L2
variable {S : Type} {X : Cx} {F : Fx S}
/-! ### plain data that may hold dicts of leaves -/
mutual
inductive DpN (K : PySem.W.Frag) (H : Hp) : V → PyData → Prop
  | non : DpN K H .non .none
  | bl (b : Bool) : DpN K H (.bl b) (.bool b)
  | int (i : Int) : DpN K H (.int i) (.int i)
  | str (x : Str) : DpN K H (.str x) (.str x)
  | lst {a : Addr} {xs : List V} {ds : List PyData} : SqL K H a xs → DpNAll K H xs ds → DpN K H (.ref a) (.list ds)
  | tup {a : Addr} {xs : List V} {ds : List PyData} : SqT K H a xs → DpNAll K H xs ds → DpN K H (.ref a) (.tuple ds)
  | dct {a : Addr} {kvs : List (Key × V)} {ds : List (PyData × PyData)} : H a = some (.dK kvs) → Paired (fun (p : Key × V) (q : PyData × PyData) => q.1 = keyP p.1 ∧ leafV p.2 q.2) kvs ds → DpN K H (.ref a) (.dict ds)
inductive DpNAll (K : PySem.W.Frag) (H : Hp) : List V → List PyData → Prop
  | nil : DpNAll K H [] []
  | cons {v : V} {vs : List V} {d : PyData} {ds : List PyData} : DpN K H v d → DpNAll K H vs ds → DpNAll K H (v :: vs) (d :: ds)
end
theorem leaf_rds {h : Heap} {v : V} {u : Value} {d : PyData} (l : leafV v d) (r : RelV v u) : RdS h u d := by
  cases v with
  | non => cases (show u = Value.none from r); cases l; exact .none
  | bl b => cases (show u = Value.bool b from r); cases l; exact .bool b
  | int i => obtain ⟨t, rfl⟩ := (show ∃ t, u = Value.int i t from r); cases l; exact .int i t
  | str x => obtain ⟨t, rfl⟩ := (show ∃ t, u = Value.str x t from r); cases l; exact .str x t
  | _ => exact l.elim
theorem key_rds {h : Heap} {k : Key} {u : Value} (e : keyIs k u = true) : RdS h u (keyP k) := by
  rcases keyIs_shape e with ⟨i, t, rfl, rfl⟩ | ⟨x, t, rfl, rfl⟩
  · exact .int i t
  · exact .str x t
theorem dict_rds {P : Program} {w : World} {h : Heap} {es : List DictEntry} {vs : List (Key × Value)} {kvs : List (Key × V)} {ds : List (PyData × PyData)} (p : Pairs (mixKind P w) es vs) (k : KV kvs vs) (l : Paired (fun (p : Key × V) (q : PyData × PyData) => q.1 = keyP p.1 ∧ leafV p.2 q.2) kvs ds) :
    RdSAll h (es.map (·.key)) (ds.map (·.1)) ∧ RdSAll h (es.map (·.val)) (ds.map (·.2)) := by
    induction p generalizing kvs ds with
    | nil =>
      cases k
      cases l
      exact ⟨.nil, .nil⟩
    | cons hk hv rest ih =>
      cases k with
      | cons k1 kr =>
        cases l with
        | cons l1 lr =>
          obtain ⟨i1, i2⟩ := ih kr lr
          obtain ⟨e1, r1⟩ := k1
          obtain ⟨f1, f2⟩ := l1
          refine ⟨?_, ?_⟩
          · rw [List.map_cons, List.map_cons, f1, e1]
            exact .cons (key_rds hk) i1
          · rw [List.map_cons, List.map_cons]
            exact .cons (leaf_rds f2 (by rw [hv]; exact r1)) i2
mutual
theorem DpN.rds {pins : List (Addr × Obj)} {s : Shared} {σ : L2.St} {H : Hp} (I : Inv X pins σ H s) : ∀ {d : PyData} {v : V} {u : Value}, DpN X.K H v d → RelV v u → RdS s.heap u d
  | .none, _, _, h, r => by
    cases h
    cases r
    exact .none
  | .bool b, _, _, h, r => by
    cases h
    cases r
    exact .bool b
  | .int i, _, _, h, r => by
    cases h
    obtain ⟨t, rfl⟩ := r
    exact .int i t
  | .str x, _, _, h, r => by
    cases h
    obtain ⟨t, rfl⟩ := r
    exact .str x t
  | .list ds, _, _, h, r => by
    cases h with
    | lst hs ha =>
      cases r
      obtain ⟨its, rv, ⟨o, n, ho, hc, _, hd⟩, _⟩ := I.list hs
      exact .list ho hc hd (DpNAll.rds I ha rv)
  | .tuple ds, _, _, h, r => by
    cases h with
    | tup hs ha =>
      cases r
      obtain ⟨its, rv, ⟨o, ho, hc, n, hd⟩, _⟩ := I.tuple hs
      exact .tuple ho hc hd (DpNAll.rds I ha rv)
  | .dict ds, _, _, h, r => by
    cases h with
    | dct ha hl =>
      cases r
      obtain ⟨_, hsys, vs, kv, o, es, ep, ho, hx, hdt, _, ps, _⟩ := (show ObjOk X.prog X.w H s.heap _ (.dK _) from I.hok _ _ ha)
      obtain ⟨r1, r2⟩ := dict_rds (h := s.heap) ps kv hl
      exact .dict hsys ho hx.1 hdt r1 r2
theorem DpNAll.rds {pins : List (Addr × Obj)} {s : Shared} {σ : L2.St} {H : Hp} (I : Inv X pins σ H s) : ∀ {ds : List PyData} {vs : List V} {us : List Value}, DpNAll X.K H vs ds → Vals vs us → RdSAll s.heap us ds
  | [], _, _, h, r => by
    cases h
    cases r
    exact .nil
  | d :: ds, _, _, h, r => by
    cases h with
    | cons h1 h2 =>
      cases r with
      | cons r1 r2 => exact .cons (DpN.rds I h1 r1) (DpNAll.rds I h2 r2)
end
def rReprN (K : PySem.W.Frag) : List V → Hp → VK → Prop := fun xs H Q => ∃ x, xs = [x] ∧
  ∃ d : PyData, DpN K H x d ∧ d.showable = true ∧ d.depth ≤ 64 ∧ d.shown.length ≤ sizeLine ∧ Q (.str d.shown) H
theorem call_reprN (hg : X.A.guards = some []) (hu : X.A.units + 70 < cLine) : CallR X (.builtin "repr") (rReprN X.K) := by
  intro pins s σ H xs us Q I r h
  obtain ⟨x, rfl, h⟩ := h
  obtain ⟨u, rfl, rx⟩ := vals1 r
  obtain ⟨d, hd, hs, hdp, hz, q⟩ := h
  have big : ∀ a : Addr, x = .ref a → wpAny (model X.prog X.w) X.A (call (.builtin "repr") [u]) (EP X pins σ Q) X.xe s := fun a ea => by
    subst ea
    obtain rfl : u = Value.ref a := rx
    have rd := DpN.rds I (v := .ref a) (u := .ref a) hd rfl
    exact repr_of_rds rd hs hg (by omega) (fun h' t tk k => ⟨.str d.shown, H, I.kept (t' := tk) k, ⟨t, rfl⟩, q⟩) hz
  cases hd with
  | non => cases (show u = Value.none from rx); exact P.repr_of_none ⟨.str _, H, I.tok _, ⟨_, rfl⟩, q⟩
  | bl b => cases (show u = Value.bool b from rx); exact P.repr_of_bool ⟨.str _, H, I.tok _, ⟨_, rfl⟩, by cases b <;> exact q⟩
  | int i => obtain ⟨t, rfl⟩ := (show ∃ t, u = Value.int i t from rx); exact P.repr_of_int (by simpa [PyData.showable] using hs) ⟨.str _, H, I.tok _, ⟨_, rfl⟩, q⟩
  | str y => obtain ⟨t, rfl⟩ := (show ∃ t, u = Value.str y t from rx); exact P.repr_of_str ⟨.str _, H, I.tok _, ⟨_, rfl⟩, q⟩ (by simpa only [PyData.shown] using hz)
  | lst _ _ => exact big _ rfl
  | tup _ _ => exact big _ rfl
  | dct _ _ => exact big _ rfl
/-! ### over data -/
mutual
def pdN : D → Option PyData
  | .non => some .none
  | .bl b => some (.bool b)
  | .int i => some (.int i)
  | .str x => some (.str x)
  | .lst ds => (pdNL ds).map .list
  | .tup ds => (pdNL ds).map .tuple
  | .dct kvs => (leafKv kvs).map .dict
  | _ => none
def pdNL : List D → Option (List PyData)
  | [] => some []
  | d :: ds => match pdN d, pdNL ds with
    | some a, some b => some (a :: b)
    | _, _ => none
end
def reprN : List D → M S D := a1 fun d => match pdN d with
  | some a => grd (a.showable = true ∧ a.depth ≤ 64 ∧ a.shown.length ≤ sizeLine) (pure (.str a.shown))
  | none => stk
mutual
theorem pdN_dp {C : Cc S} {G H : Hp} (h : Same G H) : ∀ {d : D} {v : V} {a : PyData}, Rep C G d v → pdN d = some a → DpN C.K H v a
  | .non, _, _, r, e => by cases r; cases e; exact .non
  | .bl _, _, _, r, e => by cases r; cases e; exact .bl _
  | .int _, _, _, r, e => by cases r; cases e; exact .int _
  | .str _, _, _, r, e => by cases r; cases e; exact .str _
  | .lst ds, _, _, ⟨l, vs, ev, q, z, r⟩, e => by
    subst ev
    unfold pdN at e
    obtain ⟨as, ea, rfl⟩ := Option.map_eq_some_iff.mp e
    exact .lst (.inl (.inl (h _ _ q))) (pdNL_dp h r ea)
  | .tup ds, _, _, ⟨l, vs, ev, q, z, r⟩, e => by
    subst ev
    unfold pdN at e
    obtain ⟨as, ea, rfl⟩ := Option.map_eq_some_iff.mp e
    exact .tup (SqT.sub h q) (pdNL_dp h r ea)
  | .dct _, _, _, ⟨l, vs, ev, q, r⟩, e => by
    subst ev
    unfold pdN at e
    obtain ⟨as, ea, rfl⟩ := Option.map_eq_some_iff.mp e
    exact .dct (h _ _ q) (leafKv_rep ea r)
  | .ins _ _, _, _, _, e => nomatch e
  | .exc _ _, _, _, _, e => nomatch e
  | .hnd _, _, _, _, e => nomatch e
  | .dks _, _, _, _, e => nomatch e
  | .fn _, _, _, _, e => nomatch e
  | .adr _ _, _, _, _, e => nomatch e
  | .rps _, _, _, _, e => nomatch e
  | .scr _, _, _, _, e => nomatch e
theorem pdNL_dp {C : Cc S} {G H : Hp} (h : Same G H) : ∀ {ds : List D} {vs : List V} {as : List PyData}, RepL C G ds vs → pdNL ds = some as → DpNAll C.K H vs as
  | [], _, _, r, e => by
    have e1 : _ = [] := r
    subst e1
    cases e
    exact .nil
  | d :: ds, _, _, ⟨v, us, ev, a, b⟩, e => by
    subst ev
    unfold pdNL at e
    split at e
    · rename_i x y hx hy
      cases e
      exact .cons (pdN_dp h a hx) (pdNL_dp h b hy)
    · cases e
end
theorem cd_reprN (hK : X.K = F.K) : CallD F (rReprN X.K) reprN := fun G σ H env s ds vs Q st r p => by
  rw [hK]
  obtain ⟨d, rfl, p1⟩ := p.a1
  obtain ⟨v, rfl, rv⟩ := r.r1
  cases hs : pdN d with
  | none => rw [hs] at p1; exact p1.elim
  | some a =>
    rw [hs] at p1
    obtain ⟨⟨h1, h2, h3⟩, p2⟩ := Post.grd p1
    have fin := p2 (.str a.shown) G H (Ext.refl _ _ _) st rfl
    exact ⟨_, rfl, a, pdN_dp st.gd.gh rv hs, h1, h2, h3, fin⟩
end DL
set_option Elab.async false
set_option linter.all false
set_option maxRecDepth 100000
set_option maxHeartbeats 1000000
set_option autoImplicit false
/-! DL: a law's lambdas as values: made, kept in lists, handed on by name -/
namespace DL
open PySem PySem.Spec PyProof.Rows L2 LamX
/-- a law's lambda: its parameters, its body, its names -/
structure Lam1 where
  params : Arguments
  body : Expr
  scope : Scope
variable {S : Type}
section
variable {X : Cx} {F : Fx S}
/-- the lambdas of a law and their readings -/
inductive LamsOk (X : Cx) (F : Fx S) (k : Nat) : List Lam1 → List (Env → M S D) → Prop where
  | nil : LamsOk X F k [] []
  | cons {params : Arguments} {body : Expr} {scope : Scope} {τ : Env → M S D} {ls : List Lam1} {τs : List (Env → M S D)} (L : LamS X.env.scope scope)
      (hbind : ∀ (q : Str) (cl : List (Str × Addr)) (pm cv ctv : Value), bindArgs (PySem.W.kla_fn "<lambda>" q params body scope cl pm cv ctv) ⟨[], []⟩ = pure [])
      (hbody : ∀ (A : Around) (outer : List PySem.Env) (s : Shared) (H0 : Hp) (E : XK) (f c' : Addr), Room k (A.deeper (lamEnv X scope s.heap.objs.size f c')) → ∀ G H : Hp, PE (lamCx X A outer s H0 E scope f c') body (tE (fxOf F.toCc G H E) τ))
      (rest : LamsOk X F k ls τs) : LamsOk X F k (⟨params, body, scope⟩ :: ls) (τ :: τs)
theorem LamsOk.at_ {k : Nat} : ∀ {ls : List Lam1} {τs : List (Env → M S D)}, LamsOk X F k ls τs → ∀ {i : Nat} {l : Lam1}, ls[i]? = some l → ∃ τ, τs[i]? = some τ ∧ LamS X.env.scope l.scope ∧
      (∀ (q : Str) (cl : List (Str × Addr)) (pm cv ctv : Value), bindArgs (PySem.W.kla_fn "<lambda>" q l.params l.body l.scope cl pm cv ctv) ⟨[], []⟩ = pure []) ∧
      (∀ (A : Around) (outer : List PySem.Env) (s : Shared) (H0 : Hp) (E : XK) (f c' : Addr), Room k (A.deeper (lamEnv X l.scope s.heap.objs.size f c')) → ∀ G H : Hp, PE (lamCx X A outer s H0 E l.scope f c') l.body (tE (fxOf F.toCc G H E) τ))
  | _, _, .nil, i, l, h => by simp at h
  | _, _, .cons L hb hy rest, 0, l, h => by
    have h : some _ = some l := h
    cases h
    exact ⟨_, rfl, L, hb, hy⟩
  | _, _, .cons L hb hy rest, i + 1, l, h => rest.at_ (i := i) (by simpa using h)
end
end DL
namespace DL
open PySem PySem.Spec PyProof.Rows L2 LamX
/-! ### where a law's lambdas stand -/
end DL
set_option Elab.async false
set_option linter.all false
set_option maxRecDepth 100000
set_option maxHeartbeats 400000
set_option autoImplicit false
/-! DL: a if c else b, as a test -/
namespace DL
open PySem PySem.Spec PyProof.Rows L2
section
variable {S : Type} {X : Cx} {F : Fx S}
def tIteT (ta tb tc : TT) : TT := fun σ H Q => ta σ H fun c H1 => if c = true then tb σ H1 Q else tc σ H1 Q
theorem pt_iteT {c a b : Expr} {pos : Pos} {ta tb tc : TT} (hc : PT X c ta) (ha : PT X a tb) (hb : PT X b tc) : PT X (.IfExp c a b pos) (tIteT ta tb tc) := by
  refine ⟨fun pins s σ H Q I h => ?_⟩
  refine isTrue_IfExp (thn (hc.run pins s σ H _ I h) fun k s1 ⟨H1, I1, q⟩ => ?_)
  cases k with
  | true => exact ha.run pins s1 σ H1 Q I1 q
  | false => exact hb.run pins s1 σ H1 Q I1 q
def iteT (t u v : Env → M S Bool) : Env → M S Bool := fun env => do if ← t env then u env else v env
theorem dt_iteT {c a b : Expr} {pos : Pos} {t u v : Env → M S Bool} (hc : PT X c (tT F t)) (ha : PT X a (tT F u)) (hb : PT X b (tT F v)) : PT X (.IfExp c a b pos) (tT F (iteT t u v)) :=
  pt_mono (pt_iteT hc ha hb) fun σ H Q ⟨G, env, s, st, p⟩ => seqT st p fun k s1 G1 H1 e1 st1 p1 => by
    cases k with
    | true =>
      rw [if_pos rfl]
      exact ⟨G1, env, s1, st1, p1.mono fun b s2 _ q G' H' e2 st2 => q G' H' (e1.trans e2) st2⟩
    | false =>
      rw [if_neg (by simp)]
      exact ⟨G1, env, s1, st1, p1.mono fun b s2 _ q G' H' e2 st2 => q G' H' (e1.trans e2) st2⟩
end
end DL
set_option Elab.async false
set_option linter.all false
set_option maxRecDepth 100000
set_option maxHeartbeats 4000000
set_option autoImplicit false
/-! printed by tools/k23.py: the law k23 -/
namespace DL
open PySem PySem.Spec PyProof.Rows L2
abbrev N__law_datesX : List Str := ["_law_draw", "_law_most", "_law_wide", "_law_found", "_law_turn"]
noncomputable def rd__law_datesX (cells : List Int) : Env → M DrS Flw :=
  (sSeq (sAsg (cal (sem__law_pick cells) [] 2 (aCons (rVar 0) (aCons (lstD (aCons (rC (.int 12)) (aCons (rC (.int 40)) (aCons (rC (.int 40)) (aCons (rC (.int 120)) (aCons (rC (.int 1001)) aNil)))))) aNil))) (gNm 2)) (sSeq (sAsg (cmp [4] (iR1 (aCons (cal (sem__law_take cells) [] 2 (aCons (rVar 0) (aCons (bin addD (rVar 1) (rC (.int 1))) aNil))) aNil)) (gNm 4) tYs (cal (sem__law_take cells) [] 2 (aCons (rVar 0) (aCons (rVar 2) aNil)))) (gNm 3)) (sRet (cal (sem__law_shuffled cells) [] 2 (aCons (rVar 0) (aCons (sortSetD (rVar 3)) aNil))))))
noncomputable def sem__law_datesX (cells : List Int) : List D → M DrS D := runB (rd__law_datesX cells) N__law_datesX
abbrev N__law_kinds : List Str := []
def rd__law_kinds {S : Type} : Env → M S Flw :=
  (sRet (lstD (aCons (rC (.str "date")) (aCons (rC (.str "number")) (aCons (rC (.str "age")) (aCons (rC (.str "left")) aNil))))))
def sem__law_kinds {S : Type} : List D → M S D := runB (rd__law_kinds) N__law_kinds
abbrev N__law_odd : List Str := ["_law_draw"]
def rd__law_odd (cells : List Int) : Env → M DrS Flw :=
  (sRet (cal (sem__law_pick cells) [] 2 (aCons (rVar 0) (aCons (lstD (aCons (rC .non) (aCons (rC (.str "a")) (aCons (rC (.str "")) (aCons (rC (.bl true)) (aCons (negD (rC (.int 1))) (aCons (tupD aNil) (aCons (lstD aNil) (aCons (rC (.dct [])) (aCons (tupD (aCons (rC (.int 0)) aNil)) (aCons (lstD (aCons (rC (.str "date")) aNil)) (aCons (dctD [((rC (.str "a")), (rC (.int 0)))]) (aCons (bin powD (rC (.int 10)) (rC (.int 30))) aNil))))))))))))) aNil))))
def sem__law_odd (cells : List Int) : List D → M DrS D := runB (rd__law_odd cells) N__law_odd
abbrev N__law_bent_dates : List Str := ["_law_draw", "_law_datesx", "_law_odd_here", "_law_at", "_law_way"]
def rd__law_bent_dates (cells : List Int) : Env → M DrS Flw :=
  (sSeq (sAsg (cal (sem__law_pick cells) [] 2 (aCons (rVar 0) (aCons (lstD (aCons (rC .non) (aCons (rC (.bl true)) (aCons (negD (rC (.int 1))) (aCons (rC (.int 1001)) (aCons (rC (.str "1")) (aCons (tupD (aCons (rC (.int 0)) aNil)) (aCons (lstD (aCons (rC (.int 1)) aNil)) (aCons (bin powD (rC (.int 10)) (rC (.int 20))) (aCons (rC (.dct [])) (aCons (rC (.int 0)) (aCons (rC (.int 1000)) aNil)))))))))))) aNil))) (gNm 2)) (sSeq (sPar 3 4 (aCons (cal (sem__law_take cells) [] 2 (aCons (rVar 0) (aCons (bin addD (bcl lenD (aCons (rVar 1) aNil)) (rC (.int 1))) aNil))) (aCons (cal (sem__law_take cells) [] 2 (aCons (rVar 0) (aCons (rC (.int 5)) aNil))) aNil))) (sSeq (sIf (asT (bin (eqD false) (rVar 4) (rC (.int 0)))) (sRet (cal (sem__law_pick cells) [] 2 (aCons (rVar 0) (aCons (lstD (aCons (rC .non) (aCons (rC (.int 5)) (aCons (rC (.str "dates")) (aCons (rC (.dct [])) (aCons (dctD [((rC (.int 0)), (rC (.int 1)))]) (aCons (rC (.bl true)) (aCons (lrgD (rC (.int 13))) (aCons (bcl tupleD (aCons (rVar 1) aNil)) aNil))))))))) aNil)))) sNx) (sSeq (sIf (asT (bin (eqD false) (rVar 4) (rC (.int 1)))) (sRet (bin addD (bin addD (slcD (rVar 1) oNone (oSome (rVar 3))) (slcD (rVar 1) oNone (oSome (rC (.int 1))))) (slcD (rVar 1) (oSome (rVar 3)) oNone))) sNx) (sRet (bin addD (bin addD (slcD (rVar 1) oNone (oSome (rVar 3))) (lstD (aCons (rVar 2) aNil))) (slcD (rVar 1) (oSome (rVar 3)) oNone)))))))
def sem__law_bent_dates (cells : List Int) : List D → M DrS D := runB (rd__law_bent_dates cells) N__law_bent_dates
abbrev N__law_are_dates : List Str := ["_law_thing", "_law_at", "_law_item"]
def rd__law_are_dates {S : Type} (cs : List Str) : Env → M S Flw :=
  (sSeq (sIf (orT (notT (asT (isi (tb_kit_two_list_tuple cs) (rVar 0)))) (asT (bin gtD (bcl lenD (aCons (rVar 0) aNil)) (rC (.int 12))))) (sRet (rC (.bl false))) sNx) (sSeq (sFor (iEnm (aCons (rVar 0) aNil)) (gTp 2 (gsCons (gNm 1) (gsCons (gNm 2) gsNil))) (sIf (orT (notT (asT (isi (tb_kit_ty_int cs) (rVar 2)))) (orT (asT (isi (tb_kit_ty_bool cs) (rVar 2))) (orT (notT (asT (chn leD leD (rC (.int 0)) (rVar 2) (rC (.int 1000))))) (asT (bin (inD false) (rVar 2) (slcD (bcl listD (aCons (rVar 0) aNil)) oNone (oSome (rVar 1)))))))) (sRet (rC (.bl false))) sNx)) (sRet (rC (.bl true)))))
def sem__law_are_dates {S : Type} (cs : List Str) : List D → M S D := runB (rd__law_are_dates cs) N__law_are_dates
abbrev N__law_key : List Str := ["_law_kindx", "_law_datesx", "_law_datex", "_law_one"]
def rd__law_key {S : Type} : Env → M S Flw :=
  (sSeq (sIf (asT (bin (eqD false) (rVar 0) (rC (.str "date")))) (sRet (rVar 2)) sNx) (sSeq (sIf (asT (bin (eqD false) (rVar 0) (rC (.str "age")))) (sRet (bin subD (rVar 2) (bcl minD (aCons (bcl listD (aCons (rVar 1) aNil)) aNil)))) sNx) (sRet (bcl lenD (aCons (cmp [3] (iSq (rVar 1)) (gNm 3) (iteT (asT (bin (eqD false) (rVar 0) (rC (.str "number")))) (asT (bin ltD (rVar 3) (rVar 2))) (asT (bin gtD (rVar 3) (rVar 2)))) (rVar 3)) aNil)))))
def sem__law_key {S : Type} : List D → M S D := runB (rd__law_key) N__law_key
abbrev N__law_due : List Str := ["_law_kindx", "_law_datesx", "_law_datex"]
def rd__law_due {S : Type} (cs : List Str) : Env → M S Flw :=
  (sSeq (sIf (orT (notT (asT (isi (tb_kit_ty_str cs) (rVar 0)))) (asT (bin (inD true) (rVar 0) (cal sem__law_kinds [] 0 aNil)))) (sRet (tupD (aCons (rC (.str "kind")) (aCons (bcl reprD (aCons (rVar 0) aNil)) aNil)))) sNx) (sSeq (sIf (notT (asT (cal (sem__law_are_dates cs) [] 1 (aCons (rVar 1) aNil)))) (sRet (tupD (aCons (rC (.str "dates")) (aCons (rC (.str "")) aNil)))) sNx) (sSeq (sIf (orT (notT (asT (isi (tb_kit_ty_int cs) (rVar 2)))) (orT (asT (isi (tb_kit_ty_bool cs) (rVar 2))) (asT (bin (inD true) (rVar 2) (rVar 1))))) (sRet (tupD (aCons (rC (.str "date")) (aCons (bcl reprD (aCons (rVar 2) aNil)) aNil)))) sNx) (sRet (tupD (aCons (rC (.str "key")) (aCons (bcl reprD (aCons (cal sem__law_key [] 3 (aCons (rVar 0) (aCons (rVar 1) (aCons (rVar 2) aNil)))) aNil)) aNil)))))))
def sem__law_due {S : Type} (cs : List Str) : List D → M S D := runB (rd__law_due cs) N__law_due
abbrev N__law_told : List Str := ["_law_work", "_law_found", "_law_error", "_law_marks"]
def rd__law_told {S : Type} (cs : List Str) : Env → M S Flw :=
  (sSeq (sIf (asT (bin (isXD false) (rVar 2) (rC .non))) (sRet (tupD (aCons (rC (.str "key")) (aCons (bcl reprD (aCons (ixO 1 (rC (.int 0))) aNil)) aNil)))) sNx) (sSeq (sAsg (lstD (aCons (isiX (tb_kit_xty_BadKind cs) tbx_BadKind (rVar 2)) (aCons (isiX (tb_kit_xty_BadDates cs) tbx_BadDates (rVar 2)) (aCons (isiX (tb_kit_xty_NoDate cs) tbx_NoDate (rVar 2)) aNil)))) (gNm 3)) (sSeq (sIf (orT (asT (bin (eqD true) (cntB (rVar 3) (rC (.bl true))) (rC (.int 1)))) (notT (asT (isiX (tb_kit_xty_ValueError cs) tbx_ValueError (rVar 2))))) (sRet (tupD (aCons (rC (.str "other")) (aCons (rC (.str "")) aNil)))) sNx) (sSeq (sIf (asT (bin ixD (rVar 3) (rC (.int 0)))) (sRet (tupD (aCons (rC (.str "kind")) (aCons (bcl reprD (aCons (xfD ["BadKind"] "kind" (rVar 2)) aNil)) aNil)))) sNx) (sRet (iteE (asT (bin ixD (rVar 3) (rC (.int 1)))) (tupD (aCons (rC (.str "dates")) (aCons (rC (.str "")) aNil))) (tupD (aCons (rC (.str "date")) (aCons (bcl reprD (aCons (xfD ["NoDate"] "date" (rVar 2)) aNil)) aNil)))))))))
abbrev N_need_kindX : List Str := ["kind"]
def rd_need_kindX {S : Type} (cs : List Str) : Env → M S Flw :=
  (sIf (notT (asT (cal (sem_is_kind cs) [] 1 (aCons (rVar 0) aNil)))) (sRaise "BadKind" "kind" (rVar 0)) sNx)
def sem_need_kindX {S : Type} (cs : List Str) : List D → M S D := runB (rd_need_kindX cs) N_need_kindX
abbrev N_need_datesX : List Str := ["dates"]
def rd_need_datesX {S : Type} (cs : List Str) : Env → M S Flw :=
  (sIf (notT (asT (cal (sem_are_dates cs) [] 1 (aCons (rVar 0) aNil)))) (sRaise0 "BadDates") sNx)
def sem_need_datesX {S : Type} (cs : List Str) : List D → M S D := runB (rd_need_datesX cs) N_need_datesX
abbrev N_need_dateX : List Str := ["dates", "date"]
def rd_need_dateX {S : Type} (cs : List Str) : Env → M S Flw :=
  (sIf (orT (notT (asT (cal (sem_is_number cs) [] 1 (aCons (rVar 1) aNil)))) (asT (bin (inD true) (rVar 1) (rVar 0)))) (sRaise "NoDate" "date" (rVar 1)) sNx)
def sem_need_dateX {S : Type} (cs : List Str) : List D → M S D := runB (rd_need_dateX cs) N_need_dateX
abbrev N_key_of : List Str := ["kind", "dates", "date"]
def rd_key_of {S : Type} (cs : List Str) : Env → M S Flw :=
  (sSeq (sDrop (cal (sem_need_kindX cs) [] 1 (aCons (rVar 0) aNil))) (sSeq (sDrop (cal (sem_need_datesX cs) [] 1 (aCons (rVar 1) aNil))) (sSeq (sDrop (cal (sem_need_dateX cs) [] 2 (aCons (rVar 1) (aCons (rVar 2) aNil)))) (sRet (cal sem_key_by [] 3 (aCons (rVar 0) (aCons (bcl listD (aCons (rVar 1) aNil)) (aCons (rVar 2) aNil))))))))
def sem_key_of {S : Type} (cs : List Str) : List D → M S D := runB (rd_key_of cs) N_key_of
abbrev N_law : List Str := ["_law_script", "_law_draw", "_law_turn", "_law_datesx", "_law_sort", "_law_day", "_law_due_here", "_law_shown"]
noncomputable def rd_law (cs : List Str) (cells : List Int) : Env → M DrS Flw :=
  (sSeq (sFor (iR1 (aCons (bin addD (rC (.int 6)) (bcl min2D (aCons (bcl lenD (aCons (rVar 0) aNil)) (aCons (rC (.int 20)) aNil)))) aNil)) (gNm 2) (sSeq (sAsg (tupD (aCons (cal (sem__law_datesX cells) [] 2 (aCons (rVar 1) (aCons (rC (.int 12)) aNil))) (aCons (cal (sem__law_pick cells) [] 2 (aCons (rVar 1) (aCons (cal sem__law_kinds [] 0 aNil) aNil))) aNil))) (gTp 2 (gsCons (gNm 3) (gsCons (gNm 4) gsNil)))) (sSeq (sAsg (iteE (asT (bin gtD (cal (sem__law_take cells) [] 2 (aCons (rVar 1) (aCons (rC (.int 3)) aNil))) (rC (.int 0)))) (cal (sem__law_pick cells) [] 2 (aCons (rVar 1) (aCons (bin addD (rVar 3) (lstD (aCons (rC (.int 0)) (aCons (rC (.int 7)) aNil)))) aNil))) (cal (sem__law_pick cells) [] 2 (aCons (rVar 1) (aCons (lstD (aCons (cal (sem__law_odd cells) [] 1 (aCons (rVar 1) aNil)) (aCons (rC (.bl false)) aNil))) aNil)))) (gNm 5)) (sSeq (sIf (asT (bin (eqD false) (cal (sem__law_take cells) [] 2 (aCons (rVar 1) (aCons (rC (.int 4)) aNil))) (rC (.int 0)))) (sAsg (cal (sem__law_pick cells) [] 2 (aCons (rVar 1) (aCons (lstD (aCons (cal (sem__law_odd cells) [] 1 (aCons (rVar 1) aNil)) (aCons (rC (.str "Date")) (aCons (rC (.str "key")) (aCons (rC (.str "ages")) aNil))))) aNil))) (gNm 4)) sNx) (sSeq (sIf (asT (bin (eqD false) (cal (sem__law_take cells) [] 2 (aCons (rVar 1) (aCons (rC (.int 4)) aNil))) (rC (.int 0)))) (sAsg (cal (sem__law_bent_dates cells) [] 2 (aCons (rVar 1) (aCons (rVar 3) aNil))) (gNm 3)) sNx) (sSeq (sPar 6 7 (aCons (cal (sem__law_due cs) [] 3 (aCons (rVar 4) (aCons (rVar 3) (aCons (rVar 5) aNil)))) (aCons (bcl reprN (aCons (lstD (aCons (rVar 4) (aCons (rVar 3) (aCons (rVar 5) aNil)))) aNil)) aNil))) (sSeq (sIf (orT (asT (bin (eqD true) (toldF ["BadDates", "BadKind", "NoDate"] (cal (sem_key_of cs) [] 3 (aCons (rVar 4) (aCons (rVar 3) (aCons (rVar 5) aNil)))) (rd__law_told cs)) (rVar 6))) (asT (bin (eqD true) (bcl reprN (aCons (lstD (aCons (rVar 4) (aCons (rVar 3) (aCons (rVar 5) aNil)))) aNil)) (rVar 7)))) (sRet (rC (.bl false))) sNx) (sSeq (sIf (asT (bin (eqD true) (toldF ["BadDates", "BadKind", "NoDate"] (calK (sem_key_of cs) [2, 1, 0] 3 (aCons (rVar 5) (aCons (rVar 3) (aCons (rVar 4) aNil)))) (rd__law_told cs)) (rVar 6))) (sRet (rC (.bl false))) sNx) (sIf (andT (asT (isi (tb_kit_ty_list cs) (rVar 3))) (asT (bin (eqD true) (toldF ["BadDates", "BadKind", "NoDate"] (cal (sem_key_of cs) [] 3 (aCons (rVar 4) (aCons (bcl tupleD (aCons (rVar 3) aNil)) (aCons (rVar 5) aNil)))) (rd__law_told cs)) (rVar 6)))) (sRet (rC (.bl false))) sNx))))))))) (sRet (rC (.bl true))))
end DL
set_option Elab.async false
set_option linter.all false
set_option maxRecDepth 100000
set_option autoImplicit false
/-! rows that repeat from somewhere on: least rounds, least beginnings (plain) -/
namespace Tab
variable {α : Type} [DecidableEq α]
/-- from N on, f repeats with p -/
def Eper (f : Nat → α) (N p : Nat) : Prop := ∀ d, N ≤ d → f (d + p) = f d
theorem Eper.mul {f : Nat → α} {N p : Nat} (h : Eper f N p) : ∀ k, Eper f N (p * k)
  | 0 => fun d _ => by simp
  | k + 1 => fun d hd => by
    rw [Nat.mul_succ, ← Nat.add_assoc, h (d + p * k) (by omega)]
    exact h.mul k d hd
theorem Eper.mod {f : Nat → α} {N a b : Nat} (ha : Eper f N a) (hb : Eper f N b) : Eper f N (b % a) := fun d hd => by
  have e : b = b % a + a * (b / a) := (Nat.mod_add_div b a).symm
  have h1 := ha.mul (b / a) (d + b % a) (by omega)
  rw [Nat.add_assoc, ← e] at h1
  rw [← h1]; exact hb d hd
theorem Eper.gcd {f : Nat → α} {N : Nat} : ∀ (a b : Nat), Eper f N a → Eper f N b → Eper f N (Nat.gcd a b) := fun a b => by
  induction a, b using Nat.gcd.induction with
  | H0 b => intro _ hb; rw [Nat.gcd_zero_left]; exact hb
  | H1 a b h ih =>
    intro ha hb
    rw [Nat.gcd_rec]
    exact ih (ha.mod hb) ha
/-- a period that holds from N on holds where another one does -/
theorem Eper.back {f : Nat → α} {N M p s : Nat} (hs : 1 ≤ s) (h : Eper f M s) (hp : Eper f N p) : Eper f M p := fun d hd => by
  have k := N
  have e1 := h.mul N d hd
  have e2 := h.mul N (d + p) (by omega)
  have hN : N ≤ d + s * N := by
    have : 1 * N ≤ s * N := Nat.mul_le_mul_right N hs
    omega
  have e3 := hp (d + s * N) hN
  rw [show d + s * N + p = d + p + s * N by omega] at e3
  rw [← e2, e3, e1]
end Tab
set_option Elab.async false
set_option linter.all false
set_option maxRecDepth 100000
set_option maxHeartbeats 4000000
set_option autoImplicit false
/-! fates repeat far out (plain) -/
namespace DL
open PySem PySem.Spec PyProof.Rows L2 Rh
/-- the numbers at which a step parts days -/
def Stp.nums : Stp → List Int
  | .pl (.frm n) => [absI n]
  | .pl (.unt n) => [absI n]
  | .since n _ => [absI n]
  | .add _ _ a b => [absI a, absI (b.getD a)]
  | _ => []
def Pl.sp : Pl → Int
  | .shift n => absI n
  | _ => 0
def Stp.sp : Stp → Int
  | .pl x => x.sp
  | _ => 0
def sumL (l : List Int) : Int := l.foldl (· + ·) 0
theorem sum_from : ∀ (l : List Int) (a : Int), l.foldl (· + ·) a = a + sumL l
  | [], a => by simp [sumL]
  | x :: l, a => by
    have e1 : (x :: l).foldl (· + ·) a = l.foldl (· + ·) (a + x) := rfl
    have e2 : sumL (x :: l) = l.foldl (· + ·) (0 + x) := rfl
    rw [e1, e2, sum_from l (a + x), sum_from l (0 + x)]; omega
theorem sumL_cons (x : Int) (l : List Int) : sumL (x :: l) = x + sumL l := by
  have e2 : sumL (x :: l) = l.foldl (· + ·) (0 + x) := rfl
  rw [e2, sum_from]; omega
theorem sumL_app : ∀ (l m : List Int), sumL (l ++ m) = sumL l + sumL m
  | [], m => by simp [sumL]
  | x :: l, m => by rw [List.cons_append, sumL_cons, sumL_cons, sumL_app l m]; omega
def spanS (xs : List Stp) : Int := sumL ((flatS xs).map Stp.sp)
def bordS (xs : List Stp) : Int := maxL 0 ((flatS xs).flatMap Stp.nums)
def farS (xs : List Stp) : Int := bordS xs + 2 * spanS xs + 1
theorem absI_nn (n : Int) : 0 ≤ absI n ∧ n ≤ absI n ∧ -n ≤ absI n := by unfold absI; split <;> omega
theorem sp_nn (x : Pl) : 0 ≤ x.sp := by cases x <;> simp [Pl.sp] ; exact (absI_nn _).1
theorem sumP_nn : ∀ xs : List Pl, 0 ≤ sumL (xs.map Pl.sp)
  | [] => by simp [sumL]
  | x :: xs => by rw [List.map_cons, sumL_cons]; have := sp_nn x; have := sumP_nn xs; omega
theorem span_nn (xs : List Stp) : 0 ≤ spanS xs := by
  unfold spanS
  generalize flatS xs = l
  induction l with
  | nil => simp [sumL]
  | cons x l ih =>
    rw [List.map_cons, sumL_cons]
    have : 0 ≤ x.sp := by
      cases x with
      | pl x => exact sp_nn x
      | _ => simp [Stp.sp]
    omega
theorem gos_cons {T : Type} (g : T → Int → Option Int) (x : T) (xs : List T) (o : Option Int) : gos g (x :: xs) o = gos g xs (o.bind (g x)) := rfl
/-- how far a step can carry -/
def Stp.all : Stp → Int
  | .pl x => x.sp
  | .since _ xs => sumL (xs.map Pl.sp)
  | _ => 0
theorem all_nn (x : Stp) : 0 ≤ x.all := by
  cases x with
  | pl x => exact sp_nn x
  | add p rs a b => simp [Stp.all]
  | since n xs => exact sumP_nn xs
theorem sumA_nn : ∀ xs : List Stp, 0 ≤ sumL (xs.map Stp.all)
  | [] => by simp [sumL]
  | x :: xs => by rw [List.map_cons, sumL_cons]; have := all_nn x; have := sumA_nn xs; omega
theorem span_all : ∀ xs : List Stp, spanS xs = sumL (xs.map Stp.all)
  | [] => rfl
  | x :: xs => by
    have e : spanS (x :: xs) = sumL (x.flat.map Stp.sp) + spanS xs := by
      unfold spanS flatS
      rw [List.flatMap_cons, List.map_append, sumL_app]
    rw [e, span_all xs, List.map_cons, sumL_cons]
    congr 1
    cases x with
    | pl x => show sumL [x.sp] = x.sp; simp [sumL]
    | add p rs a b => simp [Stp.flat, sumL, Stp.sp, Stp.all]
    | since n ys =>
      show sumL (Stp.sp (.since n ys) :: (ys.map Stp.pl).map Stp.sp) = sumL (ys.map Pl.sp)
      rw [sumL_cons, List.map_map]
      have : (Stp.sp ∘ Stp.pl) = Pl.sp := rfl
      rw [this]
      simp [Stp.sp]
/-- the rounds of all rhythms divide L -/
def divs (L : Int) (xs : List Stp) : Prop := ∀ p ∈ rounds xs, 1 ≤ p ∧ p ∣ L
/-! ### the real steps of a model -/
def Pl.real : Pl → Pl
  | .keep p rs => .keep (leastP p rs) (formR p rs)
  | .strike p rs => .strike (leastP p rs) (formR p rs)
  | x => x
def Stp.real : Stp → Stp
  | .pl x => .pl x.real
  | .add p rs a b => .add (leastP p rs) (formR p rs) a b
  | .since n xs => .since n (xs.map Pl.real)
abbrev reals (xs : List Stp) : List Stp := xs.map Stp.real
theorem flat_real : ∀ xs : List Stp, flatS (reals xs) = (flatS xs).map Stp.real
  | [] => rfl
  | x :: xs => by
    have ih := flat_real xs
    unfold flatS reals at *
    rw [List.map_cons, List.flatMap_cons, List.flatMap_cons, List.map_append, ih]
    congr 1
    cases x with
    | pl x => rfl
    | add p rs a b => rfl
    | since n ys => show _ :: (ys.map Pl.real).map Stp.pl = _ :: (ys.map Stp.pl).map Stp.real; rw [List.map_map, List.map_map]; rfl
theorem sp_real (x : Stp) : x.real.sp = x.sp := by
  cases x with
  | pl x => cases x <;> rfl
  | _ => rfl
theorem span_real (xs : List Stp) : spanS (reals xs) = spanS xs := by
  unfold spanS
  rw [flat_real, List.map_map]
  congr 1
  apply List.map_congr_left
  intro x _
  exact sp_real x
theorem pl_real_wf {x : Pl} (h : x.wf) : x.real.wf := by
  cases x with
  | keep p rs => exact (form_can (h : Wf p rs)).wf
  | strike p rs => exact (form_can (h : Wf p rs)).wf
  | _ => exact h
theorem stp_real_wf {x : Stp} (h : x.wf) : x.real.wf := by
  cases x with
  | pl x => exact pl_real_wf h
  | add p rs a b => exact ⟨(form_can h.1).wf, h.2⟩
  | since n xs =>
    refine ⟨h.1, fun z => h.2.1 (List.map_eq_nil_iff.mp z), fun y hy => ?_⟩
    obtain ⟨x, hx, rfl⟩ := List.mem_map.mp hy
    exact pl_real_wf (h.2.2 x hx)
theorem reals_wf {xs : List Stp} (h : ∀ x ∈ xs, x.wf) : ∀ y ∈ reals xs, y.wf := fun y hy => by
  obtain ⟨x, hx, rfl⟩ := List.mem_map.mp hy
  exact stp_real_wf (h x hx)
/-- a script's round is a multiple of each of its rounds -/
theorem lcmL_ok : ∀ (ps : List Int) (i : Int), 1 ≤ i → (∀ p ∈ ps, 1 ≤ p) → 1 ≤ lcmL ps i ∧ i ∣ lcmL ps i ∧ ∀ p ∈ ps, p ∣ lcmL ps i
  | [], i, hi, _ => ⟨hi, Int.dvd_refl i, by simp⟩
  | q :: ps, i, hi, h => by
    have hq := h q List.mem_cons_self
    obtain ⟨a, b, c⟩ := lcmL_ok ps (lcmI i q) (lcmI_pos hi hq) fun p hp => h p (List.mem_cons_of_mem _ hp)
    refine ⟨a, Int.dvd_trans (lcmI_dvd_left hi hq) b, fun p hp => ?_⟩
    rcases List.mem_cons.mp hp with rfl | hp
    · exact Int.dvd_trans (lcmI_dvd_right hi hq) b
    · exact c p hp
theorem lcmL_dvd : ∀ (ps : List Int) (i B : Int), 1 ≤ B → 1 ≤ i → (∀ p ∈ ps, 1 ≤ p) → i ∣ B → (∀ p ∈ ps, p ∣ B) → lcmL ps i ∣ B
  | [], i, B, _, _, _, h, _ => h
  | q :: ps, i, B, hB, hi, h1, h, h2 => by
    have hq := h1 q List.mem_cons_self
    exact lcmL_dvd ps (lcmI i q) B hB (lcmI_pos hi hq) (fun p hp => h1 p (List.mem_cons_of_mem _ hp)) (lcmI_least hi hq hB h (h2 q List.mem_cons_self)) fun p hp => h2 p (List.mem_cons_of_mem _ hp)
theorem rounds_pos {xs : List Stp} (h : ∀ x ∈ xs, x.wf) : ∀ p ∈ rounds xs, 1 ≤ p := fun p hp => by
  obtain ⟨z, hz, e⟩ := List.mem_filterMap.mp hp
  have hw := flat_wf h z hz
  cases z with
  | pl x => cases x with
    | keep p' rs => cases e; exact Wf.pos hw
    | strike p' rs => cases e; exact Wf.pos hw
    | _ => cases e
  | add p' rs a b => cases e; exact Wf.pos hw.1
  | since n ys => cases e
theorem round_pos {xs : List Stp} (h : ∀ x ∈ xs, x.wf) : 1 ≤ roundS xs := (lcmL_ok _ 1 (by decide) (rounds_pos h)).1
theorem round_divs {xs : List Stp} (h : ∀ x ∈ xs, x.wf) : divs (roundS xs) xs := fun p hp => ⟨rounds_pos h p hp, (lcmL_ok _ 1 (by decide) (rounds_pos h)).2.2 p hp⟩
end DL
set_option Elab.async false
set_option linter.all false
set_option maxRecDepth 100000
set_option maxHeartbeats 400000
set_option autoImplicit false
/-! what stands behind a script, as the program reckons it (plain) -/
namespace DL
open PySem PySem.Spec PyProof.Rows L2 Rh
/-- an offer: the step, its day, its day at the end or none -/
abbrev Itm := Nat × Int × Option Int
def addDays (p : Int) (rs : List Int) (a : Int) (b : Option Int) (w : Int) : List Int := (rngI a ((match b with
  | none => w
  | some b => if b < w then b else w) + 1)).filter fun d => decide (d % p ∈ rs)
def newStep (w : Int) (k : Nat) (x : Stp) (f : List Itm) : List Itm := match x with
  | .add p rs a b => f ++ ((addDays p rs a b w).filter fun d => !(decide (d ∈ f.filterMap (·.2.2)))).map fun d => (k, d, some d)
  | x => f.map fun y => (y.1, y.2.1, y.2.2.bind x.go)
def newGo (w : Int) : Nat → List Stp → List Itm → List Itm
  | _, [], f => f
  | k, x :: xs, f => newGo w (k + 1) xs (newStep w k x f)
def newOnes (xs : List Stp) (last : Int) : List Itm := (newGo (last + spanS xs) 0 xs []).filter fun y => decide (y.2.1 ≤ last)
def nearS (xs : List Stp) (d : Int) : Int := if d < farS xs then d else farS xs + (d - farS xs) % roundS xs
def nearOf (xs : List Stp) : List (Nat × Int) := (newOnes xs (farS xs + roundS xs)).map fun y => (y.1, y.2.1)
def Stp.ad : Stp → Bool
  | .add _ _ _ _ => true
  | _ => false
def blockGo (xs : List Stp) (there : List (Nat × Int)) : Nat → List Stp → Int → Option (Nat × Int)
  | _, [], _ => none
  | k, x :: r, d => if (x.ad && decide ((k, nearS xs d) ∈ there)) = true then some (k, d) else match x.go d with
    | none => none
    | some e => blockGo xs there (k + 1) r e
def blockOf (xs : List Stp) (d : Int) : Option (Nat × Int) := blockGo xs (nearOf xs) 0 xs d
/-- a stand: its day, the date that stands there or none -/
abbrev Sd := Int × Option Int
def newF (last : Int) (bar : List (Nat × Int)) (y : Itm) : Option Sd := match y.2.2 with
  | none => none
  | some d => if d ≤ last ∧ (y.1, y.2.1) ∉ bar then some (d, none) else none
def oldF (xs : List Stp) (last : Int) (d : Int) : Option Sd := match fate xs (some d) with
  | none => none
  | some e => if e ≤ last then some (e, some d) else none
def newsS (xs : List Stp) (bar : List (Nat × Int)) (last : Int) : List Sd := (newOnes xs (last + spanS xs)).filterMap (newF last bar)
def oldsS (xs : List Stp) (dates : List Int) (last : Int) : List Sd := dates.filterMap (oldF xs last)
def oldT (l : List Sd) : List (List Int) := l.filterMap fun x => x.2.map fun o => [x.1, 0, o]
def newT (l : List Sd) : List (List Int) := l.filterMap fun x => match x.2 with
  | none => some [x.1, 1, 0]
  | some _ => none
def backS : List Int → Sd
  | [d, side, o] => (d, if side = 1 then none else some o)
  | _ => (0, none)
def inOrd (l : List Sd) : List Sd := (srtL (srtL (oldT l) ++ newT l)).map backS
def barS (xs : List Stp) (dates : List Int) : List (Nat × Int) := dates.filterMap (blockOf xs)
def standsS (xs : List Stp) (dates : List Int) (last : Int) : List Sd := inOrd (newsS xs (barS xs dates) last ++ oldsS xs dates last)
end DL
set_option Elab.async false
set_option linter.all false
set_option maxRecDepth 100000
set_option maxHeartbeats 4000000
set_option autoImplicit false
/-! more of fixed data -/
namespace DL
open PySem PySem.Spec PyProof.Rows L2 Rh
section
variable {S : Type} {env : Env} {cs : List Str} {s : S}
theorem tupD_of {α : Env → M S (List D)} {ds : List D} {s1 : S} (h : α env s = .ok ds s1) (hl : ds.length ≤ 100) : tupD α env s = .ok (.tup ds) s1 := by
  rw [tupD_run, h, Res.bind_ok, if_pos (by rw [sizeLine_eq]; omega)]
theorem call1_of {τ : Env → M S D} {f : List D → M S D} {x z : D} {s1 s2 : S} (h : τ env s = .ok x s1) (k : f [x] s1 = .ok z s2) : bcl f (aCons τ aNil) env s = .ok z s2 := by
  rw [bcl_run, aCons_run, h]; exact k
theorem ret_of {τ : Env → M S D} {d : D} {s1 : S} (h : τ env s = .ok d s1) : sRet τ env s = .ok (.rt d) s1 := by rw [sRet_run, h]; rfl
end
end DL
set_option Elab.async false
set_option linter.all false
set_option maxRecDepth 100000
set_option maxHeartbeats 4000000
set_option autoImplicit false
/-! what fates.py reckons of a script: span, border, far, offsets, the least table -/
namespace DL
open PySem PySem.Spec PyProof.Rows L2 Rh
section
variable {S : Type} {s : S} {cs : List Str} {env : Env}
/-! ### more readings -/
theorem cut_from (xs : List D) (k : Nat) : cutD xs (some (k : Int)) none = xs.drop k := by
  unfold cutD
  rw [HT.sIx_nat, HT.sIx_none]
  rw [List.take_of_length_le (by rw [List.length_drop]; omega)]
  by_cases c : k ≤ xs.length
  · rw [Nat.min_eq_left c]
  · rw [Nat.min_eq_right (by omega), List.drop_length, List.drop_eq_nil_of_le (by omega)]
theorem cut_to (xs : List D) (k : Nat) : cutD xs none (some (k : Int)) = xs.take k := by
  unfold cutD
  rw [HT.sIx_nat, HT.sIx_none, List.drop_zero, Nat.sub_zero]
  by_cases c : k ≤ xs.length
  · rw [Nat.min_eq_left c]
  · rw [Nat.min_eq_right (by omega), List.take_length, List.take_of_length_le (by omega)]
theorem Det.slcFrom {τ κ : Env → M S D} {ds : List D} {k : Nat} (h : Det τ env (.lst ds)) (h' : Det κ env (.int (k : Int))) : Det (slcD τ (oSome κ) oNone) env (.lst (ds.drop k)) := fun s => by
  show ((τ env s).bind fun d s1 => ((κ env s1).bind fun e s2 => (onInt (fun i => pure (some i)) e : M S (Option Int)) s2).bind fun l s2 => _) = _
  rw [h s, Res.bind_ok, h' s]
  show (.ok (.lst (cutD ds (some (k : Int)) none)) s : Res S D) = _
  rw [cut_from]
theorem Det.slcTo {τ κ : Env → M S D} {ds : List D} {k : Nat} (h : Det τ env (.lst ds)) (h' : Det κ env (.int (k : Int))) : Det (slcD τ oNone (oSome κ)) env (.lst (ds.take k)) := fun s => by
  show ((τ env s).bind fun d s1 => (Res.ok none s1).bind fun l s2 => ((κ env s2).bind fun e s3 => (onInt (fun i => pure (some i)) e : M S (Option Int)) s3).bind fun h s3 => _) = _
  rw [h s, Res.bind_ok, Res.bind_ok, h' s]
  show (.ok (.lst (cutD ds none (some (k : Int)))) s : Res S D) = _
  rw [cut_to]
theorem Det.add_lst {τ υ : Env → M S D} {a b : List D} (h : Det τ env (.lst a)) (h' : Det υ env (.lst b)) (hl : a.length + b.length ≤ 100000) : Det (DL.bin addD τ υ) env (.lst (a ++ b)) := Det.bin h h' fun s => by
  rw [addD_lst, if_pos (by rw [sizeLine_eq]; omega)]
/-! ### the parts of a script -/
end
end DL
set_option Elab.async false
set_option linter.all false
set_option maxRecDepth 100000
set_option maxHeartbeats 4000000
set_option autoImplicit false
/-! the least table, by the program -/
namespace DL
open PySem PySem.Spec PyProof.Rows L2 Rh
end DL
set_option Elab.async false
set_option linter.all false
set_option maxRecDepth 100000
set_option maxHeartbeats 4000000
set_option autoImplicit false
/-! steps of a run, one by one -/
namespace DL
open PySem PySem.Spec PyProof.Rows L2 Rh
section
variable {S : Type} {env e : Env} {s s1 s2 : S} {t : Env → M S Bool} {a b : Env → M S Flw} {τ υ : Env → M S D} {r : Res S Flw} {d : D}
theorem seq_skip (h : t env s = .ok false s1) (k : b env s1 = r) : sSeq (sIf t a sNx) b env s = r := by rw [sSeq_run, sIf_run, h]; exact k
theorem seq_ret (h : t env s = .ok true s1) (k : a env s1 = .ok (.rt d) s2) : sSeq (sIf t a sNx) b env s = .ok (.rt d) s2 := by
  rw [sSeq_run, sIf_run, h, Res.bind_ok, if_pos rfl, k]; rfl
theorem if_t (h : t env s = .ok true s1) (k : a env s1 = r) : sIf t a b env s = r := by rw [sIf_run, h, Res.bind_ok, if_pos rfl, k]
theorem if_f (h : t env s = .ok false s1) (k : b env s1 = r) : sIf t a b env s = r := by rw [sIf_run, h, Res.bind_ok, if_neg (by simp), k]
theorem ite_t {q : Res S D} (h : t env s = .ok true s1) (k : τ env s1 = q) : iteE t τ υ env s = q := by rw [iteE_run, h, Res.bind_ok, if_pos rfl, k]
theorem ite_f {q : Res S D} (h : t env s = .ok false s1) (k : υ env s1 = q) : iteE t τ υ env s = q := by rw [iteE_run, h, Res.bind_ok, if_neg (by simp), k]
theorem for_of {ι : Env → M S (List D)} {γ : D → Env → M S Env} {ds : List D} (h : ι env s = .ok ds s1) (k : forL γ a ds env s1 = r) : sFor ι γ a env s = r := by rw [sFor_run, h]; exact k
theorem or_t {u : Env → M S Bool} (h : t env s = .ok true s1) : orT t u env s = .ok true s1 := by rw [orT_run, h]; rfl
theorem or_f {u : Env → M S Bool} {q : Res S Bool} (h : t env s = .ok false s1) (k : u env s1 = q) : orT t u env s = q := by rw [orT_run, h, Res.bind_ok, if_neg (by simp), k]
theorem and_t {u : Env → M S Bool} {q : Res S Bool} (h : t env s = .ok true s1) (k : u env s1 = q) : andT t u env s = q := by rw [andT_run, h, Res.bind_ok, if_pos rfl, k]
theorem and_f {u : Env → M S Bool} (h : t env s = .ok false s1) : andT t u env s = .ok false s1 := by rw [andT_run, h]; rfl
theorem not_of {b : Bool} (h : t env s = .ok b s1) : notT t env s = .ok (!b) s1 := by rw [notT_run, h]; rfl
theorem asT_of {b : Bool} (h : τ env s = .ok (.bl b) s1) : asT τ env s = .ok b s1 := by rw [asT_run, h]; rfl
theorem bin_of {f : D → D → M S D} {x y : D} {q : Res S D} (h : τ env s = .ok x s1) (h' : υ env s1 = .ok y s2) (k : f x y s2 = q) : bin f τ υ env s = q := by rw [bin_run, h, Res.bind_ok, h', Res.bind_ok, k]
theorem isi_of1 {tb : Str → Option Bool} {x : D} {q : Res S D} (h : τ env s = .ok x s1) (k : isiD tb x s1 = q) : isi tb τ env s = q := by rw [isi_run, h, Res.bind_ok, k]
theorem cmp_of {own : List Nat} {ι : Env → M S (List D)} {γ : D → Env → M S Env} {xs ys : List D} (h : ι env s = .ok xs s1) (hl : xs.length ≤ sizeLine) (k : cmpL γ t τ (wipeE env own) xs s1 = .ok ys s2) : cmp own ι γ t τ env s = .ok (.lst ys) s2 := by
  rw [cmp_run, h, Res.bind_ok, if_pos hl, calm_of k]; rfl
/-- two things at once, drawn -/
theorem Yes.par {i j : Nat} {P Q : D → Prop} (h : Yes (τ env) P) (k : Yes (υ env) Q) : Yes (sPar i j (DL.aCons τ (DL.aCons υ DL.aNil)) env) fun f => ∃ e, f = .nx e ∧ ∃ x y, P x ∧ Q y ∧ e = (env.set i (some (.val x))).set j (some (.val y)) := fun s => by
  obtain ⟨x, s1, e1, p⟩ := h s
  obtain ⟨y, s2, e2, q⟩ := k s1
  exact ⟨_, s2, sPar_run (by rw [aCons_run, e1, Res.bind_ok, aCons_run, e2]; rfl), _, rfl, x, y, p, q, rfl⟩
end
abbrev va (d : D) : Option Slot := some (.val d)
end DL
set_option Elab.async false
set_option linter.all false
set_option maxRecDepth 100000
set_option maxHeartbeats 400000
set_option autoImplicit false
/-! fates.py, stands.py: the readings reckon what StMath says -/
namespace DL
open PySem PySem.Spec PyProof.Rows L2 Rh
section
variable {S : Type} {s : S} {cs : List Str} {env : Env}
theorem cmpL_G {T : Type} {γ : D → Env → M S Env} {t : Env → M S Bool} {e : Env → M S D} (f : T → D) (en : T → Env) (p : T → Bool) (g : T → D) : ∀ {xs : List T}, (∀ x ∈ xs, γ (f x) env s = .ok (en x) s) → (∀ x ∈ xs, t (en x) s = .ok (p x) s) → (∀ x ∈ xs, p x = true → e (en x) s = .ok (g x) s) →
    cmpL γ t e env (xs.map f) s = .ok ((xs.filter p).map g) s
  | [], _, _, _ => rfl
  | x :: xs, hg, ht, he => by
    have ih := cmpL_G f en p g (xs := xs) (fun y hy => hg y (List.mem_cons_of_mem _ hy)) (fun y hy => ht y (List.mem_cons_of_mem _ hy)) fun y hy => he y (List.mem_cons_of_mem _ hy)
    show (γ (f x) env s).bind _ = _
    rw [hg x List.mem_cons_self]
    show (t (en x) s).bind _ = _
    rw [ht x List.mem_cons_self]
    cases hp : p x with
    | true =>
      show (e (en x) s).bind _ = _
      rw [he x List.mem_cons_self hp]
      show (cmpL γ t e env (xs.map f) s).bind _ = _
      rw [ih, List.filter_cons_of_pos hp]
      rfl
    | false =>
      show cmpL γ t e env (xs.map f) s = _
      rw [ih, List.filter_cons_of_neg (by rw [hp]; exact Bool.false_ne_true)]
theorem sz6 {n : Nat} (h : n ≤ 1000000) : n ≤ sizeLine := by rw [sizeLine_eq]; omega
/-! ### days_of -/
end
end DL
set_option Elab.async false
set_option linter.all false
set_option maxRecDepth 100000
set_option maxHeartbeats 400000
set_option autoImplicit false
/-! new_ones -/
namespace DL
open PySem PySem.Spec PyProof.Rows L2 Rh
end DL
set_option Elab.async false
set_option linter.all false
set_option maxRecDepth 100000
set_option maxHeartbeats 400000
set_option autoImplicit false
/-! near_offers, block_of -/
namespace DL
open PySem PySem.Spec PyProof.Rows L2 Rh
/-- what is asked of a script's model here -/
structure Scr (ys : List Stp) : Prop where
  few : (flatS ys).length ≤ 12
  wf : ∀ x ∈ ys, x.wf
  rnd : roundS ys ≤ 84
  spn : spanS ys ≤ 1200
end DL
set_option Elab.async false
set_option linter.all false
set_option maxRecDepth 100000
set_option maxHeartbeats 400000
set_option autoImplicit false
/-! block_of, in_order -/
namespace DL
open PySem PySem.Spec PyProof.Rows L2 Rh
end DL
set_option Elab.async false
set_option linter.all false
set_option maxRecDepth 100000
set_option maxHeartbeats 400000
set_option autoImplicit false
/-! stands_behind and what stands on it -/
namespace DL
open PySem PySem.Spec PyProof.Rows L2 Rh
end DL
set_option Elab.async false
set_option linter.all false
set_option maxRecDepth 100000
set_option maxHeartbeats 400000
set_option autoImplicit false
/-! how far dates are carried (plain) -/
namespace DL
open PySem PySem.Spec PyProof.Rows L2 Rh
/-! ### plain: how far dates are carried -/
theorem pl_dist {x : Pl} {d e : Int} (h : x.go d = some e) : absI (e - d) ≤ x.sp := by
  have z : ∀ {p : Prop} [Decidable p], (if p then some d else none) = some e → absI (e - d) ≤ 0 := fun h => by
    split at h
    · cases h; simp [absI]
    · cases h
  cases x with
  | shift n =>
    have h : some (d + n) = some e := h
    cases h
    show absI (d + n - d) ≤ absI n
    rw [show d + n - d = n by omega]; exact Int.le_refl _
  | frm n => exact z h
  | unt n => exact z h
  | keep p rs => exact z h
  | strike p rs =>
    have h : (if d % p ∈ rs then none else some d) = some e := h
    split at h
    · cases h
    · cases h; simp [absI, Pl.sp]
theorem absI_tri (a b c : Int) : absI (c - a) ≤ absI (b - a) + absI (c - b) := by unfold absI; split <;> split <;> split <;> omega
theorem gos_dist {T : Type} {g : T → Int → Option Int} {sp : T → Int} (h : ∀ x d e, g x d = some e → absI (e - d) ≤ sp x) : ∀ (xs : List T) (d e : Int), gos g xs (some d) = some e → absI (e - d) ≤ sumL (xs.map sp)
  | [], d, e, q => by
    have q : some d = some e := q
    cases q
    simp [absI, sumL]
  | x :: xs, d, e, q => by
    rw [gos_cons] at q
    rw [List.map_cons, sumL_cons]
    cases hg : g x d with
    | none => rw [show (some d).bind (g x) = g x d from rfl, hg, gos_none] at q; cases q
    | some m =>
      rw [show (some d).bind (g x) = g x d from rfl, hg] at q
      have := h x d m hg
      have := gos_dist h xs m e q
      have := absI_tri d m e
      omega
theorem stp_dist (x : Stp) (d e : Int) (h : x.go d = some e) : absI (e - d) ≤ x.all := by
  cases x with
  | pl x => exact pl_dist h
  | add p rs a b =>
    have h : some d = some e := h
    cases h
    simp [absI, Stp.all]
  | since n xs =>
    have h : (if n ≤ d then goPs xs (some d) else some d) = some e := h
    split at h
    · exact gos_dist (sp := Pl.sp) (fun x d e => pl_dist) xs d e h
    · cases h
      show absI (d - d) ≤ sumL (xs.map Pl.sp)
      have := sumP_nn xs
      rw [show d - d = 0 by omega]
      exact this
/-! ### tables -/
end DL
set_option Elab.async false
set_option linter.all false
set_option maxRecDepth 100000
set_option maxHeartbeats 400000
set_option autoImplicit false
/-! stands are on days that are not far (plain) -/
namespace DL
open PySem PySem.Spec PyProof.Rows L2 Rh
theorem addDays_mem {p : Int} {rs : List Int} {a : Int} {b : Option Int} {w d : Int} (h : d ∈ addDays p rs a b w) : a ≤ d ∧ d ≤ w ∧ (∀ c, b = some c → d ≤ c) ∧ d % p ∈ rs := by
  unfold addDays at h
  obtain ⟨h1, h2⟩ := List.mem_filter.mp h
  unfold rngI at h1
  obtain ⟨i, hi, rfl⟩ := List.mem_map.mp h1
  rw [List.mem_range] at hi
  refine ⟨by omega, ?_, ?_, of_decide_eq_true h2⟩
  · cases b with
    | none => simp only at hi; omega
    | some b => simp only at hi; split at hi <;> omega
  · rintro c rfl
    simp only at hi
    split at hi <;> omega
end DL
set_option Elab.async false
set_option linter.all false
set_option maxRecDepth 100000
set_option maxHeartbeats 4000000
set_option autoImplicit false
/-! plain facts behind the laws' own helpers -/
namespace DL
open PySem PySem.Spec PyProof.Rows L2 Rh
/-! ### plain facts -/
end DL
set_option Elab.async false
set_option linter.all false
set_option maxRecDepth 100000
set_option maxHeartbeats 4000000
set_option autoImplicit false
/-! what repr is told of -/
namespace DL
open PySem PySem.Spec PyProof.Rows L2 Rh
theorem strOk_of (x : String) : PyData.strOk (Str.ofString x) = true := by
  unfold PyData.strOk
  rw [Str.ofString_eq_toList, List.all_toArray, List.all_eq_true]
  intro c hc
  obtain ⟨ch, _, rfl⟩ := List.mem_map.mp hc
  have := ch.valid
  simp only [UInt32.isValidChar, Nat.isValidChar] at this
  have e : ch.toNat = ch.val.toNat := rfl
  simp only [decide_eq_true_eq]
  omega
theorem strOk_app {a b : Str} (ha : PyData.strOk a = true) (hb : PyData.strOk b = true) : PyData.strOk (a ++ b) = true := by
  unfold PyData.strOk at *
  show (a.cps ++ b.cps).all _ = true
  rw [Array.all_append, ha, hb]; rfl
theorem strOk_from : ∀ (ts : List Str) (k : Nat) (acc : Str), PyData.strOk acc = true → (∀ t ∈ ts, PyData.strOk t = true) → PyData.strOk (textFrom k acc ts) = true
  | [], _, _, h, _ => h
  | t :: ts, k, acc, h, ht => strOk_from ts (k + 1) _ (strOk_app (strOk_app h (strOk_of _)) (ht t List.mem_cons_self)) fun u hu => ht u (List.mem_cons_of_mem _ hu)
theorem strOk_list {ts : List Str} (ht : ∀ t ∈ ts, PyData.strOk t = true) : PyData.strOk (listText ts) = true := strOk_app (strOk_from ts 0 _ (strOk_of _) ht) (strOk_of _)
theorem shaped_str {x : Str} (h : PyData.strOk x = true) : SeqAt.shaped (.str x) = true := by
  simp only [SeqAt.shaped, PyData.canLay0, h, Bool.true_and]
  rfl
theorem int_small {a : Int} (h : a.natAbs < 10 ^ 12) : a.natAbs.log2 < 1920 := by
  by_cases h0 : a.natAbs = 0
  · rw [h0]; decide
  · exact (Nat.log2_lt h0).mpr (Nat.lt_trans h (by decide))
end DL
set_option Elab.async false
set_option linter.all false
set_option maxRecDepth 100000
set_option maxHeartbeats 4000000
set_option autoImplicit false
/-! plain data: what == and repr are told of -/
namespace DL
open PySem PySem.Spec PyProof.Rows L2 Rh
def Pln (d : D) (dep wt : Nat) : Prop := ∃ a, pd d = some a ∧ a.canLay0 = true ∧ a.intsShort 13 = true ∧ a.showable = true ∧ PyData.strOk a.shown = true ∧ a.depth ≤ dep ∧ a.weight ≤ wt
def PlnL (ds : List D) (dep wt : Nat) : Prop := ∃ as, pdL ds = some as ∧ PyData.canLayAll0 as = true ∧ PyData.intsShortAll 13 as = true ∧ PyData.showableAll as = true ∧ (∀ t ∈ PyData.shownAll as, PyData.strOk t = true) ∧ PyData.depthAll as ≤ dep ∧ PyData.weightAll as ≤ wt
theorem Pln.mono {d : D} {a b a' b' : Nat} (h : Pln d a b) (ha : a ≤ a') (hb : b ≤ b') : Pln d a' b' := by
  obtain ⟨x, h1, h2, h3, h4, h5, h6, h7⟩ := h
  exact ⟨x, h1, h2, h3, h4, h5, by omega, by omega⟩
theorem PlnL.mono {ds : List D} {a b a' b' : Nat} (h : PlnL ds a b) (ha : a ≤ a') (hb : b ≤ b') : PlnL ds a' b' := by
  obtain ⟨x, h1, h2, h3, h4, h5, h6, h7⟩ := h
  exact ⟨x, h1, h2, h3, h4, h5, by omega, by omega⟩
theorem Pln.non : Pln .non 0 0 := ⟨.none, rfl, rfl, rfl, rfl, strOk_of "None", Nat.le_refl _, Nat.le_refl _⟩
theorem Pln.bl {b : Bool} : Pln (.bl b) 0 0 := ⟨.bool b, rfl, rfl, rfl, rfl, by cases b; exact strOk_of "False"; exact strOk_of "True", Nat.le_refl _, Nat.le_refl _⟩
theorem log_small {i : Int} (h : i.natAbs < 10 ^ 12) : (PyData.int i).weight ≤ 40 := by
  show (if i == 0 then 0 else i.natAbs.log2 + 1) ≤ 40
  split
  · omega
  · rename_i c
    have h0 : i.natAbs ≠ 0 := fun z => c (by simp; omega)
    have : i.natAbs.log2 < 40 := (Nat.log2_lt h0).mpr (Nat.lt_trans h (by decide))
    omega
theorem Pln.int {i : Int} (h : i.natAbs < 10 ^ 12) : Pln (.int i) 0 40 := ⟨.int i, rfl, rfl, by
  show decide _ = true
  exact decide_eq_true (PyData.shown_int_le h), by
  show decide _ = true
  exact decide_eq_true (int_small h), strOk_of _, Nat.le_refl _, log_small h⟩
theorem Pln.str {x : Str} (h : PyData.strOk x = true) (h' : PyData.strOk (reprText x) = true) : Pln (.str x) 0 x.cps.size := ⟨.str x, rfl, h, rfl, rfl, h', Nat.le_refl _, Nat.le_refl _⟩
theorem PlnL.nil {dep : Nat} : PlnL [] dep 0 := ⟨[], rfl, rfl, rfl, rfl, by simp [PyData.shownAll], Nat.zero_le _, Nat.le_refl _⟩
theorem PlnL.cons {d : D} {ds : List D} {a w w' : Nat} (h : Pln d a w) (k : PlnL ds a w') : PlnL (d :: ds) a (w + 1 + w') := by
  obtain ⟨x, h1, h2, h3, h4, h5, h6, h7⟩ := h
  obtain ⟨xs, k1, k2, k3, k4, k5, k6, k7⟩ := k
  refine ⟨x :: xs, by simp only [pdL, h1, k1], by simp only [PyData.canLayAll0, h2, k2, Bool.and_self], by simp only [PyData.intsShortAll, h3, k3, Bool.and_self], by simp only [PyData.showableAll, h4, k4, Bool.and_self], ?_, ?_, ?_⟩
  · intro t ht
    rcases List.mem_cons.mp (show t ∈ x.shown :: PyData.shownAll xs from ht) with rfl | ht
    · exact h5
    · exact k5 t ht
  · show max x.depth (PyData.depthAll xs) ≤ a
    omega
  · show x.weight + 1 + PyData.weightAll xs ≤ _
    omega
theorem PlnL.map {T : Type} {f : T → D} {a w : Nat} : ∀ {xs : List T}, (∀ x ∈ xs, Pln (f x) a w) → PlnL (xs.map f) a ((w + 1) * xs.length)
  | [], _ => PlnL.nil
  | x :: xs, h => by
    have ih := PlnL.map (xs := xs) fun y hy => h y (List.mem_cons_of_mem _ hy)
    have := PlnL.cons (h x List.mem_cons_self) ih
    rw [List.length_cons, Nat.mul_succ]
    exact this.mono (Nat.le_refl _) (by omega)
theorem PlnL.all {a w : Nat} {ds : List D} (h : ∀ d ∈ ds, Pln d a w) : PlnL ds a ((w + 1) * ds.length) := by
  have := PlnL.map (f := id) (xs := ds) h
  rw [List.map_id] at this
  exact this
theorem PlnL.append {ds es : List D} {a w w' : Nat} (h : PlnL ds a w) (k : PlnL es a w') : PlnL (ds ++ es) a (w + w') := by
  obtain ⟨xs, h1, h2, h3, h4, h5, h6, h7⟩ := h
  induction ds generalizing xs w with
  | nil => cases h1; exact k.mono (Nat.le_refl _) (by omega)
  | cons d ds ih =>
    unfold pdL at h1
    cases hd : pd d with
    | none => rw [hd] at h1; cases h1
    | some x =>
      cases hs : pdL ds with
      | none => rw [hd, hs] at h1; cases h1
      | some ys =>
        rw [hd, hs] at h1
        cases h1
        simp only [PyData.canLayAll0, PyData.intsShortAll, PyData.showableAll, Bool.and_eq_true] at h2 h3 h4
        have h6 : max x.depth (PyData.depthAll ys) ≤ a := h6
        have h7 : x.weight + 1 + PyData.weightAll ys ≤ w := h7
        have := PlnL.cons (d := d) (a := a) (w := x.weight) ⟨x, hd, h2.1, h3.1, h4.1, h5 _ List.mem_cons_self, by omega, Nat.le_refl _⟩ (ih (w := PyData.weightAll ys) ys hs h2.2 h3.2 h4.2 (fun t ht => h5 t (List.mem_cons_of_mem _ ht)) (by omega) (Nat.le_refl _))
        exact this.mono (Nat.le_refl _) (by omega)
theorem strOk_join : ∀ {ts : List Str}, (∀ t ∈ ts, PyData.strOk t = true) → PyData.strOk (Str.join ", " ts) = true
  | [], _ => strOk_of ""
  | [x], h => h x List.mem_cons_self
  | x :: y :: r, h => by
    show PyData.strOk (x ++ ", " ++ Str.join ", " (y :: r)) = true
    exact strOk_app (strOk_app (h x List.mem_cons_self) (strOk_of _)) (strOk_join fun t ht => h t (List.mem_cons_of_mem _ ht))
theorem strOk_tup {ts : List Str} (h : ∀ t ∈ ts, PyData.strOk t = true) : PyData.strOk (tupleText ts) = true := strOk_app (strOk_app (strOk_of _) (strOk_join h)) (strOk_of _)
theorem Pln.lst {ds : List D} {a w : Nat} (h : PlnL ds a w) : Pln (.lst ds) (a + 1) w := by
  obtain ⟨xs, h1, h2, h3, h4, h5, h6, h7⟩ := h
  refine ⟨.list xs, ?_, h2, h3, h4, strOk_list h5, ?_, h7⟩
  · show (pdL ds).map PyData.list = _
    rw [h1]; rfl
  · show PyData.depthAll xs + 1 ≤ a + 1
    omega
theorem Pln.tup {ds : List D} {a w : Nat} (h : PlnL ds a w) : Pln (.tup ds) (a + 1) w := by
  obtain ⟨xs, h1, h2, h3, h4, h5, h6, h7⟩ := h
  refine ⟨.tuple xs, ?_, h2, h3, h4, strOk_tup h5, ?_, h7⟩
  · show (pdL ds).map PyData.tuple = _
    rw [h1]; rfl
  · show PyData.depthAll xs + 1 ≤ a + 1
    omega
section
variable {S : Type} {s : S} {env : Env}
theorem Pln.eq {d : D} {a w : Nat} (h : Pln d a w) (ha : a ≤ 64) {neg : Bool} : (eqD neg d d : M S D) s = .ok (.bl (!neg)) s := by
  obtain ⟨x, h1, h2, h3, h4, h5, h6, h7⟩ := h
  have hs : SeqAt.shaped x = true := by
    unfold SeqAt.shaped
    rw [h2, decide_eq_true (by omega)]; rfl
  have e : eqP d d = some true := by
    unfold eqP
    rw [h1]
    show (if _ then some _ else none) = _
    rw [if_pos ⟨hs, hs⟩, SeqAt.eqv_refl x h2]
  unfold eqD; rw [e]; cases neg <;> rfl
theorem Pln.shw {d : D} {a w : Nat} (h : Pln d a w) (ha : a ≤ 64) (hw : w ≤ 2 ^ 20) : Shw d := by
  obtain ⟨x, h1, h2, h3, h4, h5, h6, h7⟩ := h
  have hf : x.shown.length ≤ sizeLine := PyData.shown_fits (B := 13) (by decide) (by decide) (PyData.leavesShort_of_canLay0 13 x h2 h3) (by omega)
  have hsd : shwD d = some x := by
    cases d <;> first | exact h1 | cases h1
  refine ⟨x.shown, fun s => ⟨?_, ?_⟩⟩
  · show (match shwD d with
      | some a => grd (a.showable = true ∧ a.depth ≤ 64 ∧ a.shown.length ≤ sizeLine) (pure (.str a.shown))
      | none => stk : M DrS D) s = _
    rw [hsd]
    show (grd (x.showable = true ∧ x.depth ≤ 64 ∧ x.shown.length ≤ sizeLine) (pure (.str x.shown)) : M DrS D) s = _
    rw [grd_pos ⟨h4, by omega, hf⟩]; rfl
  · have e : eqP (.str x.shown) (.str x.shown) = some true := by
      show (if SeqAt.shaped (.str x.shown) = true ∧ SeqAt.shaped (.str x.shown) = true then some (PyData.eqv (.str x.shown) (.str x.shown)) else none) = _
      rw [if_pos ⟨shaped_str h5, shaped_str h5⟩]
      simp only [PyData.eqv, beq_self_eq_true]
    unfold eqD; rw [e]; rfl
end
end DL
set_option Elab.async false
set_option linter.all false
set_option maxRecDepth 100000
set_option maxHeartbeats 400000
set_option autoImplicit false
/-! all_stands, shown_days, is_ended, last_stand, blocked_by -/
namespace DL
open PySem PySem.Spec PyProof.Rows L2 Rh
/-- dates as they are let -/
structure Dts (dates : List Int) : Prop where
  few : dates.length ≤ 12
  lo : ∀ d ∈ dates, 0 ≤ d ∧ d ≤ 1000
  nd : dates.Nodup
section
variable {S : Type} {s : S} {cs : List Str} {env : Env} {ys : List Stp}
theorem num_all {lo hi : Int} : ∀ (ns : List Int), (∀ n ∈ ns, lo ≤ n ∧ n ≤ hi) → (ns.map D.int).all (numIn lo hi) = true
  | [], _ => rfl
  | n :: ns, h => by
    rw [List.map_cons, List.all_cons, num_all ns fun m hm => h m (List.mem_cons_of_mem _ hm), Bool.and_true]
    have := h n List.mem_cons_self
    show (decide (lo ≤ n) && decide (n ≤ hi)) = true
    simp [this.1, this.2]
end
end DL
set_option Elab.async false
set_option linter.all false
set_option maxRecDepth 100000
set_option maxHeartbeats 4000000
set_option autoImplicit false
/-! printed by tools/hlp.py: lcm, least, rhythm of the law -/
namespace DL
open PySem PySem.Spec PyProof.Rows L2 Rh
/-! ### the models -/
theorem pick_list {cells : List Int} {env : Env} {i : Nat} {τ : Env → M DrS D} {ds : List D} (hi : env[i]? = some (some (.val (.hnd 0)))) (h : Yes (τ env) (· = .lst ds)) (h0 : 0 < ds.length) (h1 : ds.length ≤ 100000000) : Yes (cal (sem__law_pick cells) [] 2 (aCons (rVar i) (aCons τ aNil)) env) (· ∈ ds) := by
  refine Yes.cal (args2 (P := (· = .hnd 0)) (Q := (· = .lst ds)) (fun s => ⟨_, s, rVar_run hi, rfl⟩) h) ?_
  rintro _ ⟨_, _, rfl, rfl, rfl⟩
  exact pick_ok cells h0 h1
end DL
set_option Elab.async false
set_option linter.all false
set_option maxRecDepth 100000
set_option maxHeartbeats 4000000
set_option autoImplicit false
/-! what the laws draw: models of steps -/
namespace DL
open PySem PySem.Spec PyProof.Rows L2 Rh
section
variable {S : Type} {env : Env}
/-! ### more of what always ends -/
def AllE (α : Env → M S (List D)) (env : Env) (P : D → Prop) (n : Nat) : Prop := Yes (α env) fun ds => ds.length = n ∧ ∀ d ∈ ds, P d
theorem AllE.nil {P : D → Prop} : AllE (aNil : Env → M S (List D)) env P 0 := fun s => ⟨[], s, rfl, rfl, by simp⟩
theorem AllE.cons {τ : Env → M S D} {α : Env → M S (List D)} {P : D → Prop} {n : Nat} (h : Yes (τ env) P) (k : AllE α env P n) : AllE (aCons τ α) env P (n + 1) :=
  Yes.bind h fun x hx => Yes.bind k fun ds hd => Yes.pure ⟨by simp [hd.1], by
    intro d hm
    rcases List.mem_cons.mp hm with rfl | hm
    · exact hx
    · exact hd.2 d hm⟩
theorem AllE.lst {α : Env → M S (List D)} {P : D → Prop} {n : Nat} (h : AllE α env P n) (hn : n ≤ 100) : Yes (lstD α env) fun d => ∃ ds, d = .lst ds ∧ ds.length = n ∧ ∀ d ∈ ds, P d := fun s => by
  obtain ⟨ds, s1, e, hl, hp⟩ := h s
  exact ⟨_, s1, lstD_of e (by omega), ds, rfl, hl, hp⟩
theorem Yes.aCons {τ : Env → M S D} {α : Env → M S (List D)} {P : D → Prop} {R : List D → Prop} (h : Yes (τ env) P) (k : Yes (α env) R) : Yes (DL.aCons τ α env) fun ds => ∃ x r, ds = x :: r ∧ P x ∧ R r :=
  Yes.bind h fun x hx => Yes.bind k fun ds hd => Yes.pure ⟨x, ds, rfl, hx, hd⟩
theorem Yes.aNil : Yes ((DL.aNil : Env → M S (List D)) env) (· = []) := fun s => ⟨[], s, rfl, rfl⟩
theorem Yes.tup {α : Env → M S (List D)} {R : List D → Prop} (h : Yes (α env) R) (hl : ∀ ds, R ds → ds.length ≤ 100) : Yes (tupD α env) fun d => ∃ ds, d = .tup ds ∧ R ds := fun s => by
  obtain ⟨ds, s1, e, r⟩ := h s
  exact ⟨_, s1, tupD_of e (hl ds r), ds, rfl, r⟩
theorem Yes.c {d : D} : Yes ((rC d : Env → M S D) env) (· = d) := fun s => ⟨d, s, rfl, rfl⟩
theorem Yes.app {i : Nat} {τ : Env → M S D} {ds : List D} {P : D → Prop} (hi : env[i]? = some (some (.own ds))) (hl : ds.length < 100000) (h : Yes (τ env) P) : Yes (sApp i τ env) fun f => ∃ e, f = .nx e ∧ ∃ d, P d ∧ e = env.set i (some (.own (ds ++ [d]))) := fun s => by
  obtain ⟨d, s1, e, p⟩ := h s
  refine ⟨_, s1, ?_, _, rfl, d, p, rfl⟩
  unfold sApp
  rw [hi]
  show (τ env s).bind _ = _
  rw [e, Res.bind_ok]
  show grd _ _ s1 = _
  rw [grd_run, if_pos (by rw [sizeLine_eq]; omega)]; rfl
theorem Yes.retO {i : Nat} {ds : List D} (hi : env[i]? = some (some (.own ds))) : Yes ((sRetO i : Env → M S Flw) env) fun f => ∃ d, f = .rt d ∧ d = .lst ds := fun s => by
  refine ⟨_, s, ?_, _, rfl, rfl⟩
  unfold sRetO; rw [hi]; rfl
/-- a list of things that are drawn one by one -/
theorem Yes.drawn {own : List Nat} {i : Nat} {τ e : Env → M S D} {P : D → Prop} {lo hi : Int} (h : IntE τ env fun v => lo ≤ v ∧ v ≤ hi) (hlo : 0 ≤ lo) (hhi : hi ≤ 1000) (he : ∀ x : Int, Yes (e ((wipeE env own).set i (some (.val (.int x))))) P) :
    Yes (cmp own (iR1 (DL.aCons τ DL.aNil)) (gNm i) tYs e env) fun d => ∃ ds, d = .lst ds ∧ lo ≤ (ds.length : Int) ∧ (ds.length : Int) ≤ hi ∧ ∀ y ∈ ds, P y := fun s => by
  obtain ⟨_, s1, e1, v, rfl, h1, h2⟩ := h s
  have hc : Yes (cmpL (gNm i) tYs e (wipeE env own) (rngD 0 v)) fun ys => ys.length = (rngD 0 v).length ∧ ∀ y ∈ ys, P y := by
    refine Yes.list P fun x hx => ?_
    rw [rngD_eq] at hx
    obtain ⟨m, -, rfl⟩ := List.mem_map.mp hx
    refine Yes.mono (Yes.of fun s => gNm_run) ?_
    rintro _ rfl
    exact he m
  obtain ⟨ys, s2, e2, q1, q2⟩ := (Yes.calm hc) s1
  have hl : (rngD 0 v).length = v.toNat := by rw [rngD_eq, List.length_map, rngI_length]; omega
  refine ⟨_, s2, ?_, ys, rfl, by omega, by omega, q2⟩
  rw [cmp_run, iR1_run, aCons_run, e1]
  simp only [Res.bind_ok, aNil_run]
  rw [if_pos (show -(2 ^ 62) ≤ v ∧ v < 2 ^ 62 by omega), Res.bind_ok, if_pos (by rw [hl]; exact sz3 (by omega)), e2]
  rfl
end
section
variable {env : Env} {cells : List Int}
theorem pick_all {i : Nat} {α : Env → M DrS (List D)} {P : D → Prop} {n : Nat} (hi : env[i]? = some (some (.val (.hnd 0)))) (h : AllE α env P n) (h0 : 0 < n) (h1 : n ≤ 100) : Yes (cal (sem__law_pick cells) [] 2 (aCons (rVar i) (aCons (lstD α) aNil)) env) P := by
  refine Yes.cal (args2 (P := (· = .hnd 0)) (fun s => ⟨_, s, rVar_run hi, rfl⟩) (AllE.lst h h1)) ?_
  rintro _ ⟨_, _, rfl, rfl, ds, rfl, hl, hp⟩
  exact Yes.mono (pick_ok cells (by omega) (by omega)) fun d hd => hp d hd
/-! ### numbers, plain steps -/
end
/-- small enough, with rounds that divide a base -/
def Pl.dv (base : Int) : Pl → Prop
  | .shift n => -10 ≤ n ∧ n ≤ 10
  | .keep p _ => p ∣ base
  | .strike p _ => p ∣ base
  | _ => True
def Stp.dv (base : Int) : Stp → Prop
  | .pl x => x.dv base
  | .add p _ _ _ => p ∣ base
  | .since _ xs => xs.length ≤ 2 ∧ ∀ x ∈ xs, x.dv base
def Stp.isSi : Stp → Bool
  | .since _ _ => true
  | _ => false
def Stp.isAd : Stp → Bool
  | .add _ _ _ _ => true
  | _ => false
/-! ### lists of steps -/
structure IsSts (base : Int) (most : Nat) (new : Bool) (xs : List Stp) : Prop where
  len : xs.length ≤ most
  wf : ∀ x ∈ xs, x.wf
  dv : ∀ x ∈ xs, x.dv base
  si : (xs.filter Stp.isSi).length ≤ 2
  ad : new = false → ∀ x ∈ xs, x.isAd = false
theorem IsSts.push {base : Int} {most : Nat} {new : Bool} {xs : List Stp} {x : Stp} (h : IsSts base most new xs) (hw : x.wf) (hd : x.dv base) (hs : x.isSi = true → (xs.filter Stp.isSi).length < 2) (ha : new = false → x.isAd = false) : IsSts base (most + 1) new (xs ++ [x]) where
  len := by have := h.len; simp; omega
  wf := fun y hy => (List.mem_append.mp hy).elim (h.wf y) fun z => by cases List.mem_singleton.mp z; exact hw
  dv := fun y hy => (List.mem_append.mp hy).elim (h.dv y) fun z => by cases List.mem_singleton.mp z; exact hd
  si := by
    rw [List.filter_append, List.length_append]
    have := h.si
    cases c : x.isSi with
    | true => have := hs c; rw [List.filter_cons_of_pos c]; simp; omega
    | false => rw [List.filter_cons_of_neg (by rw [c]; simp)]; simp; omega
  ad := fun n y hy => (List.mem_append.mp hy).elim (h.ad n y) fun z => by cases List.mem_singleton.mp z; exact ha n
def bases : List Int := [1, 2, 3, 4, 6, 7, 12, 14]
end DL
set_option Elab.async false
set_option linter.all false
set_option maxRecDepth 100000
set_option maxHeartbeats 4000000
set_option autoImplicit false
/-! what the laws' own helpers reckon of models of scripts -/
namespace DL
open PySem PySem.Spec PyProof.Rows L2 Rh
/-! ### bounds of what is drawn -/
theorem bases_le {base : Int} (h : base ∈ bases) : 1 ≤ base ∧ base ≤ 14 := by
  simp only [bases, List.mem_cons, List.not_mem_nil, or_false] at h
  omega
theorem flat_len0 {base : Int} : ∀ xs : List Stp, (∀ x ∈ xs, x.dv base) → (flatS xs).length ≤ xs.length + 2 * (xs.filter Stp.isSi).length
  | [], _ => Nat.le_refl _
  | x :: xs, h => by
    have ih := flat_len0 xs fun y hy => h y (List.mem_cons_of_mem _ hy)
    have hx := h x List.mem_cons_self
    unfold flatS at *
    rw [List.flatMap_cons, List.length_append]
    cases x with
    | pl y => rw [List.filter_cons_of_neg (by simp [Stp.isSi])]; simp only [Stp.flat, List.length_cons, List.length_nil]; omega
    | add p rs a b => rw [List.filter_cons_of_neg (by simp [Stp.isSi])]; simp only [Stp.flat, List.length_cons, List.length_nil]; omega
    | since n ys =>
      have : ys.length ≤ 2 := hx.1
      rw [List.filter_cons_of_pos rfl]; simp only [Stp.flat, List.length_cons, List.length_map]; omega
theorem IsSts.flat {base : Int} {most : Nat} {new : Bool} {xs : List Stp} (h : IsSts base most new xs) : (flatS xs).length ≤ most + 4 := by
  have := flat_len0 xs h.dv
  have := h.len
  have := h.si
  omega
theorem flat_dv {base : Int} {xs : List Stp} (h : ∀ x ∈ xs, x.dv base) : ∀ z ∈ flatS xs, z.dv base := fun z hz => by
  obtain ⟨x, hx, hz⟩ := List.mem_flatMap.mp hz
  have hd := h x hx
  cases x with
  | pl y => cases List.mem_singleton.mp hz; exact hd
  | add p rs a b => cases List.mem_singleton.mp hz; exact hd
  | since n ys =>
    rcases List.mem_cons.mp hz with rfl | hz
    · exact hd
    · obtain ⟨y, hy, rfl⟩ := List.mem_map.mp hz
      exact hd.2 y hy
theorem sp_le {base : Int} {z : Stp} (h : z.dv base) : z.sp ≤ 10 := by
  cases z with
  | pl y => cases y with
    | shift n =>
      have h : -10 ≤ n ∧ n ≤ 10 := h
      show absI n ≤ 10
      unfold absI; split <;> omega
    | _ => show (0 : Int) ≤ 10; decide
  | _ => show (0 : Int) ≤ 10; decide
theorem sum_le {c : Int} : ∀ l : List Int, (∀ x ∈ l, x ≤ c) → sumL l ≤ c * l.length
  | [], _ => by simp [sumL]
  | x :: l, h => by
    rw [sumL_cons, List.length_cons]
    have h1 := h x List.mem_cons_self
    have h2 := sum_le l fun y hy => h y (List.mem_cons_of_mem _ hy)
    have : c * ((l.length + 1 : Nat) : Int) = c * (l.length : Int) + c := by rw [show ((l.length + 1 : Nat) : Int) = (l.length : Int) + 1 from rfl, Int.mul_add, Int.mul_one]
    omega
theorem span_le {base : Int} {xs : List Stp} (h : ∀ x ∈ xs, x.dv base) : spanS xs ≤ 10 * (flatS xs).length := by
  unfold spanS
  have := sum_le (c := 10) ((flatS xs).map Stp.sp) fun y hy => by
    obtain ⟨z, hz, rfl⟩ := List.mem_map.mp hy
    exact sp_le (flat_dv h z hz)
  rw [List.length_map] at this
  exact this
theorem least_dvd {p : Int} {rs : List Int} (w : Wf p rs) : leastP p rs ∣ p := Int.dvd_of_emod_eq_zero (form_le w).2
theorem rounds_real_dvd {base : Int} {xs : List Stp} (hw : ∀ x ∈ xs, x.wf) (h : ∀ x ∈ xs, x.dv base) : ∀ p ∈ rounds (reals xs), p ∣ base := fun p hp => by
  unfold rounds at hp
  rw [flat_real] at hp
  obtain ⟨z, hz, e⟩ := List.mem_filterMap.mp hp
  obtain ⟨y, hy, rfl⟩ := List.mem_map.mp hz
  have w := flat_wf hw y hy
  have d := flat_dv h y hy
  cases y with
  | pl x => cases x with
    | keep q rs => cases e; exact Int.dvd_trans (least_dvd w) d
    | strike q rs => cases e; exact Int.dvd_trans (least_dvd w) d
    | _ => cases e
  | add q rs a b => cases e; exact Int.dvd_trans (least_dvd w.1) d
  | since n ys => cases e
theorem round_real_le {base : Int} {xs : List Stp} (hb : 1 ≤ base) (hw : ∀ x ∈ xs, x.wf) (h : ∀ x ∈ xs, x.dv base) : roundS (reals xs) ≤ base :=
  Int.le_of_dvd (by omega) (lcmL_dvd _ 1 base hb (by decide) (rounds_pos (reals_wf hw)) (Int.one_dvd base) (rounds_real_dvd hw h))
end DL
set_option Elab.async false
set_option linter.all false
set_option maxRecDepth 100000
set_option maxHeartbeats 4000000
set_option autoImplicit false
/-! borders, rounds and tables, as the laws reckon them -/
namespace DL
open PySem PySem.Spec PyProof.Rows L2 Rh
end DL
set_option Elab.async false
set_option linter.all false
set_option maxRecDepth 100000
set_option maxHeartbeats 4000000
set_option autoImplicit false
/-! tables of drawn scripts -/
namespace DL
open PySem PySem.Spec PyProof.Rows L2 Rh
theorem IsSts.bare {base : Int} {most : Nat} {xs : List Stp} (h : IsSts base most true xs) : IsSts base most true (xs.filter fun x => !x.isAd) where
  len := Nat.le_trans (List.length_filter_le _ _) h.len
  wf := fun x hx => h.wf x (List.mem_filter.mp hx).1
  dv := fun x hx => h.dv x (List.mem_filter.mp hx).1
  si := by
    rw [List.filter_filter]
    refine Nat.le_trans (List.Sublist.length_le ?_) h.si
    have : (xs.filter fun x => x.isSi && !x.isAd) = (xs.filter Stp.isSi).filter fun x => !x.isAd := by
      rw [List.filter_filter]
      apply List.filter_congr
      intro x _
      exact Bool.and_comm _ _
    rw [this]
    exact List.filter_sublist
  ad := by simp
end DL
set_option Elab.async false
set_option linter.all false
set_option maxRecDepth 100000
set_option maxHeartbeats 400000
set_option autoImplicit false
/-! new dates do not hang on how far one looks (plain) -/
namespace DL
open PySem PySem.Spec PyProof.Rows L2 Rh
/-- up to c the same days are taken, and the same offers up to t are told -/
structure Ag (c t : Int) (f f' : List Itm) : Prop where
  day : ∀ d, d ≤ c → (d ∈ f.filterMap (·.2.2) ↔ d ∈ f'.filterMap (·.2.2))
  fst : f.filter (fun y => decide (y.2.1 ≤ t)) = f'.filter fun y => decide (y.2.1 ≤ t)
theorem addDays_iff {p : Int} {rs : List Int} {a : Int} {b : Option Int} {w d : Int} : d ∈ addDays p rs a b w ↔ a ≤ d ∧ d ≤ w ∧ (∀ c, b = some c → d ≤ c) ∧ d % p ∈ rs := by
  refine ⟨addDays_mem, fun ⟨h1, h2, h3, h4⟩ => ?_⟩
  unfold addDays
  refine List.mem_filter.mpr ⟨?_, decide_eq_true h4⟩
  unfold rngI
  refine List.mem_map.mpr ⟨(d - a).toNat, List.mem_range.mpr ?_, by omega⟩
  cases b with
  | none => simp only; omega
  | some b =>
    have := h3 b rfl
    simp only
    split <;> omega
theorem rngI_cut (a m n : Int) (h : m ≤ n) : (rngI a (n + 1)).filter (fun d => decide (d ≤ m)) = rngI a (m + 1) := by
  unfold rngI
  rw [List.filter_map]
  by_cases ha : a ≤ m + 1
  · have e : List.range (n + 1 - a).toNat = List.range (m + 1 - a).toNat ++ (List.range ((n + 1 - a).toNat - (m + 1 - a).toNat)).map fun x => (m + 1 - a).toNat + x := by
      rw [← List.range_add]
      congr 1; omega
    rw [e, List.filter_append]
    have h1 : (List.range (m + 1 - a).toNat).filter ((fun d => decide (d ≤ m)) ∘ fun (i : Nat) => a + (i : Int)) = List.range (m + 1 - a).toNat := by
      refine List.filter_eq_self.mpr fun i hi => ?_
      have := List.mem_range.mp hi
      exact decide_eq_true (show a + (i : Int) ≤ m by omega)
    have h2 : ((List.range ((n + 1 - a).toNat - (m + 1 - a).toNat)).map fun x => (m + 1 - a).toNat + x).filter ((fun d => decide (d ≤ m)) ∘ fun (i : Nat) => a + (i : Int)) = [] := by
      refine List.filter_eq_nil_iff.mpr fun i hi => ?_
      obtain ⟨x, _, rfl⟩ := List.mem_map.mp hi
      simp only [Function.comp, decide_eq_true_eq]
      omega
    rw [h1, h2, List.append_nil]
  · have h0 : (m + 1 - a).toNat = 0 := by omega
    rw [h0]
    have h2 : (List.range (n + 1 - a).toNat).filter ((fun d => decide (d ≤ m)) ∘ fun (i : Nat) => a + (i : Int)) = [] := by
      refine List.filter_eq_nil_iff.mpr fun i hi => ?_
      simp only [Function.comp, decide_eq_true_eq]
      omega
    rw [h2]; rfl
theorem filter_comm {α : Type} (p q : α → Bool) (l : List α) : (l.filter p).filter q = (l.filter q).filter p := by
  rw [List.filter_filter, List.filter_filter]
  congr 1; funext x; exact Bool.and_comm _ _
theorem addDays_cut {p : Int} {rs : List Int} {a : Int} {b : Option Int} {w w' t : Int} (h : t ≤ w') (h' : t ≤ w) : (addDays p rs a b w).filter (fun d => decide (d ≤ t)) = (addDays p rs a b w').filter fun d => decide (d ≤ t) := by
  have cut : ∀ v, t ≤ v → (addDays p rs a b v).filter (fun d => decide (d ≤ t)) = (rngI a ((match b with
      | none => t
      | some b => if b < t then b else t) + 1)).filter fun d => decide (d % p ∈ rs) := fun v hv => by
    unfold addDays
    rw [filter_comm]
    congr 1
    cases b with
    | none => exact rngI_cut a t v hv
    | some b =>
      simp only
      by_cases hb : b < t
      · rw [if_pos hb, if_pos (show b < v by omega)]
        refine List.filter_eq_self.mpr fun d hd => ?_
        unfold rngI at hd
        obtain ⟨i, hi, rfl⟩ := List.mem_map.mp hd
        have := List.mem_range.mp hi
        exact decide_eq_true (by omega)
      · rw [if_neg hb]
        by_cases hv2 : b < v
        · rw [if_pos hv2]; exact rngI_cut a t b (by omega)
        · rw [if_neg hv2]; exact rngI_cut a t v hv
  rw [cut w h', cut w' h]
theorem move_day (x : Stp) (f : List Itm) (d : Int) : d ∈ (f.map fun y => ((y.1, y.2.1, y.2.2.bind x.go) : Itm)).filterMap (·.2.2) ↔ ∃ e, e ∈ f.filterMap (·.2.2) ∧ x.go e = some d := by
  simp only [List.mem_filterMap, List.mem_map]
  constructor
  · rintro ⟨y, ⟨z, hz, rfl⟩, h⟩
    simp only at h
    cases hq : z.2.2 with
    | none => rw [hq] at h; cases h
    | some e => rw [hq] at h; exact ⟨e, ⟨z, hz, hq⟩, h⟩
  · rintro ⟨e, ⟨z, hz, hq⟩, h⟩
    exact ⟨_, ⟨z, hz, rfl⟩, by simp only [hq]; exact h⟩
theorem Ag.step {c t w w' : Int} {f f' : List Itm} (h : Ag c t f f') (k : Nat) (x : Stp) (ht : t ≤ c) (hc : c ≤ w) (hc' : c ≤ w') : Ag (c - x.all) t (newStep w k x f) (newStep w' k x f') := by
  have ha := all_nn x
  have mv : Ag (c - x.all) t (f.map fun y => (y.1, y.2.1, y.2.2.bind x.go)) (f'.map fun y => (y.1, y.2.1, y.2.2.bind x.go)) := by
    refine ⟨fun d hd => ?_, ?_⟩
    · rw [move_day, move_day]
      have near : ∀ e, x.go e = some d → e ≤ c := fun e he => by
        have := stp_dist x e d he
        have := absI_nn (d - e)
        omega
      constructor
      · rintro ⟨e, he, g⟩; exact ⟨e, (h.day e (near e g)).mp he, g⟩
      · rintro ⟨e, he, g⟩; exact ⟨e, (h.day e (near e g)).mpr he, g⟩
    · rw [List.filter_map, List.filter_map]
      exact congrArg _ h.fst
  cases x with
  | pl q => exact mv
  | since n zs => exact mv
  | add p rs a b =>
    have e0 : c - Stp.all (.add p rs a b) = c := by show c - 0 = c; omega
    rw [e0]
    unfold newStep
    simp only
    refine ⟨fun d hd => ?_, ?_⟩
    · rw [List.filterMap_append, List.filterMap_append, List.mem_append, List.mem_append, h.day d hd]
      have ed : ∀ (v : Int) (g : List Itm), c ≤ v → (d ∈ (((addDays p rs a b v).filter fun d => !(decide (d ∈ g.filterMap (·.2.2)))).map fun d => ((k, d, some d) : Itm)).filterMap (·.2.2) ↔ (a ≤ d ∧ (∀ c, b = some c → d ≤ c) ∧ d % p ∈ rs) ∧ d ∉ g.filterMap (·.2.2)) := fun v g hv => by
        rw [List.filterMap_map]
        have : (fun d => ((k, d, some d) : Itm).2.2) = some := rfl
        show d ∈ List.filterMap some _ ↔ _
        rw [List.filterMap_some, List.mem_filter, addDays_iff]
        simp only [Bool.not_eq_true', decide_eq_false_iff_not]
        constructor
        · rintro ⟨⟨h1, h2, h3, h4⟩, h5⟩; exact ⟨⟨h1, h3, h4⟩, h5⟩
        · rintro ⟨⟨h1, h3, h4⟩, h5⟩; exact ⟨⟨h1, by omega, h3, h4⟩, h5⟩
      rw [ed w f hc, ed w' f' hc', h.day d hd]
    · rw [List.filter_append, List.filter_append, h.fst]
      congr 1
      rw [List.filter_map, List.filter_map]
      congr 1
      have e1 : ((fun y : Itm => decide (y.2.1 ≤ t)) ∘ fun d => ((k, d, some d) : Itm)) = fun d => decide (d ≤ t) := rfl
      rw [e1, filter_comm _ _ (addDays p rs a b w), filter_comm _ _ (addDays p rs a b w'), addDays_cut (w := w) (w' := w') (by omega) (by omega)]
      refine List.filter_congr fun d hd => ?_
      have hd : d ≤ t := of_decide_eq_true (List.mem_filter.mp hd).2
      rw [decide_eq_decide.mpr (h.day d (by omega))]
theorem Ag.go {t w w' : Int} : ∀ (xs : List Stp) (c : Int) (k : Nat) (f f' : List Itm), Ag c t f f' → t + sumL (xs.map Stp.all) ≤ c → c ≤ w → c ≤ w' → Ag (c - sumL (xs.map Stp.all)) t (newGo w k xs f) (newGo w' k xs f')
  | [], c, k, f, f', h, _, _, _ => by
    show Ag (c - 0) t f f'
    rw [Int.sub_zero]; exact h
  | x :: xs, c, k, f, f', h, ht, hc, hc' => by
    rw [List.map_cons, sumL_cons] at ht ⊢
    have ha := all_nn x
    have hn := sumA_nn xs
    have q := Ag.go (w := w) (w' := w') xs (c - x.all) (k + 1) _ _ (h.step k x (by omega) hc hc') (by omega) (by omega) (by omega)
    rw [show c - (x.all + sumL (xs.map Stp.all)) = c - x.all - sumL (xs.map Stp.all) by omega]
    exact q
theorem newOnes_cut (xs : List Stp) {v w : Int} (h : v ≤ w) : (newOnes xs w).filter (fun y => decide (y.2.1 ≤ v)) = newOnes xs v := by
  have hn := span_nn xs
  have q := Ag.go (t := v) (w := w + spanS xs) (w' := v + spanS xs) xs (v + spanS xs) 0 [] [] ⟨fun _ _ => Iff.rfl, rfl⟩ (by rw [← span_all]; omega) (by omega) (by omega)
  unfold newOnes
  rw [List.filter_filter, ← q.fst]
  refine List.filter_congr fun y _ => ?_
  by_cases h1 : y.2.1 ≤ v
  · simp [h1]; omega
  · simp [h1]
/-- an item's day at the end is not far from its first -/
def NearB (b : Int) (f : List Itm) : Prop := ∀ y ∈ f, ∀ d, y.2.2 = some d → y.2.1 - b ≤ d ∧ d ≤ y.2.1 + b
theorem near_step {w b : Int} (hb : 0 ≤ b) (k : Nat) (x : Stp) (f : List Itm) (h : NearB b f) : NearB (b + x.all) (newStep w k x f) := by
  have ha := all_nn x
  have mv : NearB (b + x.all) (f.map fun y => (y.1, y.2.1, y.2.2.bind x.go)) := fun y hy d hd => by
    obtain ⟨z, hz, rfl⟩ := List.mem_map.mp hy
    simp only at hd ⊢
    cases hq : z.2.2 with
    | none => rw [hq] at hd; cases hd
    | some e =>
      rw [hq] at hd
      have hd : x.go e = some d := hd
      have h1 := h z hz e hq
      have h2 := stp_dist x e d hd
      have := absI_nn (d - e)
      omega
  cases x with
  | pl q => exact mv
  | since n zs => exact mv
  | add p rs a c =>
    intro y hy d hd
    unfold newStep at hy
    simp only at hy
    rcases List.mem_append.mp hy with hy | hy
    · have := h y hy d hd
      omega
    · obtain ⟨e, he, rfl⟩ := List.mem_map.mp hy
      cases hd
      simp only
      omega
theorem near_go {w : Int} : ∀ (xs : List Stp) (b : Int) (k : Nat) (f : List Itm), 0 ≤ b → NearB b f → NearB (b + sumL (xs.map Stp.all)) (newGo w k xs f)
  | [], b, k, f, _, h => by
    show NearB (b + 0) f
    rw [Int.add_zero]; exact h
  | x :: xs, b, k, f, hb, h => by
    rw [List.map_cons, sumL_cons, ← Int.add_assoc]
    have ha := all_nn x
    exact near_go xs (b + x.all) (k + 1) _ (by omega) (near_step hb k x f h)
theorem news_near (xs : List Stp) (w : Int) : NearB (spanS xs) (newOnes xs w) := fun y hy => by
  have q := near_go (w := w + spanS xs) xs 0 0 [] (by omega) (fun _ h => nomatch h)
  rw [← span_all, Int.zero_add] at q
  exact q y (List.mem_filter.mp hy).1
/-- of the new stands up to a day those up to an earlier one -/
theorem newsS_cut (xs : List Stp) (bar : List (Nat × Int)) {v w : Int} (h : v ≤ w) : (newsS xs bar w).filter (fun x => decide (x.1 ≤ v)) = newsS xs bar v := by
  unfold newsS
  rw [← newOnes_cut xs (show v + spanS xs ≤ w + spanS xs by omega)]
  have hn := news_near xs (w + spanS xs)
  generalize newOnes xs (w + spanS xs) = l at hn
  induction l with
  | nil => rfl
  | cons y l ih =>
    have ih := ih fun z hz => hn z (List.mem_cons_of_mem _ hz)
    have hy := hn y List.mem_cons_self
    obtain ⟨k, a, o⟩ := y
    cases o with
    | none =>
      have e1 : (((k, a, none) : Itm) :: l).filterMap (newF w bar) = l.filterMap (newF w bar) := rfl
      rw [e1]
      by_cases hf : a ≤ v + spanS xs
      · rw [List.filter_cons_of_pos (p := fun y : Itm => decide (y.2.1 ≤ v + spanS xs)) (decide_eq_true hf), ih]; rfl
      · rw [List.filter_cons_of_neg (p := fun y : Itm => decide (y.2.1 ≤ v + spanS xs)) (by simpa using hf), ih]
    | some d =>
      have hd := hy d rfl
      simp only at hd
      have eF : ∀ u : Int, newF u bar (k, a, some d) = if d ≤ u ∧ (k, a) ∉ bar then some (d, none) else none := fun _ => rfl
      rw [List.filterMap_cons, eF w]
      by_cases hv : d ≤ v ∧ (k, a) ∉ bar
      · rw [if_pos (show d ≤ w ∧ (k, a) ∉ bar from ⟨by omega, hv.2⟩)]
        simp only
        rw [List.filter_cons_of_pos (p := fun x : Sd => decide (x.1 ≤ v)) (decide_eq_true hv.1), List.filter_cons_of_pos (p := fun y : Itm => decide (y.2.1 ≤ v + spanS xs)) (decide_eq_true (show a ≤ v + spanS xs by omega)), List.filterMap_cons, eF v, if_pos hv, ih]
      · have er : ((((k, a, some d) : Itm) :: l).filter fun y => decide (y.2.1 ≤ v + spanS xs)).filterMap (newF v bar) = (l.filter fun y => decide (y.2.1 ≤ v + spanS xs)).filterMap (newF v bar) := by
          by_cases hf : a ≤ v + spanS xs
          · rw [List.filter_cons_of_pos (p := fun y : Itm => decide (y.2.1 ≤ v + spanS xs)) (decide_eq_true hf), List.filterMap_cons, eF v, if_neg hv]
          · rw [List.filter_cons_of_neg (p := fun y : Itm => decide (y.2.1 ≤ v + spanS xs)) (by simpa using hf)]
        rw [er]
        by_cases hw : d ≤ w ∧ (k, a) ∉ bar
        · rw [if_pos hw]
          simp only
          rw [List.filter_cons_of_neg (p := fun x : Sd => decide (x.1 ≤ v)) (by
            intro z
            exact hv ⟨of_decide_eq_true z, hw.2⟩), ih]
        · rw [if_neg hw]
          exact ih
end DL
set_option Elab.async false
set_option linter.all false
set_option maxRecDepth 100000
set_option maxHeartbeats 400000
set_option autoImplicit false
/-! stands in their order (plain) -/
namespace DL
open PySem PySem.Spec PyProof.Rows L2 Rh
theorem srtL_congr {l m : List (List Int)} (p : l.Perm m) : srtL l = srtL m := srtL_eq (srtL_sorted m) ((srtL_perm m).trans p.symm)
theorem inOrd_eq (l : List Sd) : inOrd l = (srtL (oldT l ++ newT l)).map backS := by
  unfold inOrd
  rw [srtL_congr ((srtL_perm (oldT l)).append_right (newT l))]
def hd (v : List Int) : Int := v.headD 0
theorem hd_le {x y : List Int} (hx : x.length = 3) (hy : y.length = 3) (h : lexL y x = false) : hd x ≤ hd y := by
  match x, y, hx, hy with
  | a :: x, b :: y, _, _ =>
    have h : (if b = a then lexL y x else decide (b < a)) = false := h
    show a ≤ b
    by_cases e : b = a
    · omega
    · rw [if_neg e] at h
      have := of_decide_eq_false h
      omega
theorem oldT_len (l : List Sd) : ∀ v ∈ oldT l, v.length = 3 := fun v hv => by
  obtain ⟨⟨a, o⟩, _, e⟩ := List.mem_filterMap.mp hv
  cases o with
  | none => cases e
  | some o => cases e; rfl
theorem newT_len (l : List Sd) : ∀ v ∈ newT l, v.length = 3 := fun v hv => by
  obtain ⟨⟨a, o⟩, _, e⟩ := List.mem_filterMap.mp hv
  cases o with
  | none => cases e; rfl
  | some o => cases e
theorem trip_len (l : List Sd) : ∀ v ∈ srtL (oldT l ++ newT l), v.length = 3 := fun v hv => by
  rcases List.mem_append.mp ((srtL_perm _).mem_iff.mp hv) with h | h
  · exact oldT_len l v h
  · exact newT_len l v h
/-! ### all of them, in some order -/
theorem old_back : ∀ l : List Sd, (oldT l).map backS = l.filter fun x => x.2.isSome
  | [] => rfl
  | (a, none) :: l => by rw [List.filter_cons_of_neg (by simp), ← old_back l]; rfl
  | (a, some o) :: l => by rw [List.filter_cons_of_pos rfl, ← old_back l]; rfl
theorem new_back : ∀ l : List Sd, (newT l).map backS = l.filter fun x => !x.2.isSome
  | [] => rfl
  | (a, some o) :: l => by rw [List.filter_cons_of_neg (by simp), ← new_back l]; rfl
  | (a, none) :: l => by rw [List.filter_cons_of_pos rfl, ← new_back l]; rfl
theorem inOrd_perm (l : List Sd) : (inOrd l).Perm l := by
  rw [inOrd_eq]
  refine ((srtL_perm _).map backS).trans ?_
  rw [List.map_append, old_back, new_back]
  exact List.filter_append_perm _ _
theorem back_fst {v : List Int} (h : v.length = 3) : (backS v).1 = hd v := by
  match v, h with
  | [a, b, c], _ => rfl
/-- the days ascend -/
theorem inOrd_days (l : List Sd) : (inOrd l).map (·.1) = srt (l.map (·.1)) := by
  refine sorted_unique ?_ ?_ (srt_sorted _)
  · exact ((inOrd_perm l).map _).trans (srt_perm _).symm
  · rw [inOrd_eq, List.map_map]
    refine List.pairwise_map.mpr ?_
    refine (srtL_sorted (oldT l ++ newT l)).imp_of_mem fun {x y} hx hy h => ?_
    show (backS x).1 ≤ (backS y).1
    rw [back_fst (trip_len l x hx), back_fst (trip_len l y hy)]
    exact hd_le (trip_len l x hx) (trip_len l y hy) h
/-! ### the dates' stands as pairs -/
/-! ### no adds -/
/-- the days of a series' dates -/
def dyS (xs : List Stp) (dates : List Int) (w : Int) : List Int := dates.filterMap fun d => (fate xs (some d)).bind fun e => if e ≤ w then some e else none
theorem olds_fst (xs : List Stp) (dates : List Int) (w : Int) : (oldsS xs dates w).map (·.1) = dyS xs dates w := by
  unfold oldsS dyS
  induction dates with
  | nil => rfl
  | cons d l ih =>
    rw [List.filterMap_cons, List.filterMap_cons]
    unfold oldF
    cases hf : fate xs (some d) with
    | none => exact ih
    | some e =>
      by_cases hv : e ≤ w
      · simp only [Option.bind_some, if_pos hv, List.map_cons]; rw [← ih]; rfl
      · simp only [Option.bind_some, if_neg hv]; exact ih
end DL
set_option Elab.async false
set_option linter.all false
set_option maxRecDepth 100000
set_option maxHeartbeats 400000
set_option autoImplicit false
/-! dates drawn; drawn scripts as they are asked of stands -/
namespace DL
open PySem PySem.Spec PyProof.Rows L2 Rh
theorem IsSts.scr {base : Int} (hb : base ∈ bases) {most : Nat} (hm : most ≤ 8) {new : Bool} {xs : List Stp} (h : IsSts base most new xs) : Scr (reals xs) where
  few := by rw [flat_real, List.length_map]; have := h.flat; omega
  wf := reals_wf h.wf
  rnd := by
    have := round_real_le (bases_le hb).1 h.wf h.dv
    have := (bases_le hb).2
    omega
  spn := by
    rw [span_real]
    have := span_le h.dv
    have := h.flat
    omega
theorem IsSts.sub {base : Int} {most : Nat} {new new' : Bool} {xs ys : List Stp} (h : IsSts base most new xs) (hs : ys.Sublist xs) (ha : new' = false → ∀ x ∈ ys, x.isAd = false) : IsSts base most new' ys where
  len := Nat.le_trans hs.length_le h.len
  wf := fun x hx => h.wf x (hs.subset hx)
  dv := fun x hx => h.dv x (hs.subset hx)
  si := Nat.le_trans (hs.filter _).length_le h.si
  ad := ha
end DL
set_option Elab.async false
set_option linter.all false
set_option maxRecDepth 100000
set_option maxHeartbeats 400000
set_option autoImplicit false
/-! for laws over stands -/
namespace DL
open PySem PySem.Spec PyProof.Rows L2 Rh
section
variable {S : Type} {s : S} {cs : List Str} {env : Env} {ys : List Stp}
theorem inL_of {neg : Bool} {ns : List Int} {d : Int} : (inD neg (.int d) (.lst (ns.map .int)) : M S D) s = .ok (.bl (if neg then !(decide (d ∈ ns)) else decide (d ∈ ns))) s := by
  have e1 : (ns.map D.int).all flatD = true := by rw [List.all_map]; exact List.all_eq_true.mpr fun _ _ => rfl
  have e2 : ((ns.map D.int).any fun y => eqF y (.int d)) = decide (d ∈ ns) := by
    rw [List.any_map]
    by_cases h : d ∈ ns
    · rw [decide_eq_true h, List.any_eq_true]
      exact ⟨d, h, by show (d == d) = true; simp⟩
    · rw [decide_eq_false h, List.any_eq_false]
      intro x hx q
      have q : (x == d) = true := q
      rw [beq_iff_eq] at q
      exact h (q ▸ hx)
  show (grd (flatD (.int d) = true ∧ (ns.map D.int).all flatD = true) _ : M S D) s = _
  rw [grd_pos ⟨rfl, e1⟩, e2]; rfl
end
/-- scripts put together -/
theorem flat_app (fs xs : List Stp) : flatS (fs ++ xs) = flatS fs ++ flatS xs := List.flatMap_append
theorem rounds_app (fs xs : List Stp) : rounds (fs ++ xs) = rounds fs ++ rounds xs := by unfold rounds; rw [flat_app, List.filterMap_append]
theorem span_app (fs xs : List Stp) : spanS (fs ++ xs) = spanS fs + spanS xs := by unfold spanS; rw [flat_app, List.map_append, sumL_app]
theorem round_app {fs xs : List Stp} (hf : ∀ x ∈ fs, x.wf) (hx : ∀ x ∈ xs, x.wf) : roundS (fs ++ xs) ≤ lcmI (roundS fs) (roundS xs) := by
  have p1 := round_pos hf
  have p2 := round_pos hx
  have hp := lcmI_pos p1 p2
  refine Int.le_of_dvd (by omega) ?_
  unfold roundS
  refine lcmL_dvd _ 1 _ hp (by decide) ?_ (Int.one_dvd _) ?_
  · intro p hpm
    rw [rounds_app] at hpm
    rcases List.mem_append.mp hpm with h | h
    · exact rounds_pos hf p h
    · exact rounds_pos hx p h
  · intro p hpm
    rw [rounds_app] at hpm
    rcases List.mem_append.mp hpm with h | h
    · exact Int.dvd_trans ((round_divs hf) p h).2 (lcmI_dvd_left p1 p2)
    · exact Int.dvd_trans ((round_divs hx) p h).2 (lcmI_dvd_right p1 p2)
theorem Scr.app {fs xs : List Stp} (hf : ∀ x ∈ fs, x.wf) (hx : ∀ x ∈ xs, x.wf) (h1 : (flatS fs).length + (flatS xs).length ≤ 12) (h2 : lcmI (roundS fs) (roundS xs) ≤ 84) (h3 : spanS fs + spanS xs ≤ 1200) : Scr (fs ++ xs) where
  few := by rw [flat_app, List.length_append]; exact h1
  wf := fun x h => (List.mem_append.mp h).elim (hf x) (hx x)
  rnd := Int.le_trans (round_app hf hx) h2
  spn := by rw [span_app]; exact h3
end DL
set_option Elab.async false
set_option linter.all false
set_option maxRecDepth 100000
set_option maxHeartbeats 400000
set_option autoImplicit false
/-! which days are taken, without an end; offers repeat far out (plain) -/
namespace DL
open PySem PySem.Spec PyProof.Rows L2 Rh
def inAdd (p : Int) (rs : List Int) (a : Int) (b : Option Int) (d : Int) : Prop := a ≤ d ∧ (∀ c, b = some c → d ≤ c) ∧ d % p ∈ rs
/-- the days that new ones stand on behind a step -/
def occ1 (O : Int → Prop) : Stp → Int → Prop
  | .add p rs a b => fun d => O d ∨ inAdd p rs a b d
  | x => fun d => ∃ e, O e ∧ x.go e = some d
def occ (pre : List Stp) : Int → Prop := pre.foldl occ1 fun _ => False
/-! ### far out all repeats -/
end DL
set_option Elab.async false
set_option linter.all false
set_option maxRecDepth 100000
set_option maxHeartbeats 400000
set_option autoImplicit false
/-! offers and what blocks them (plain) -/
namespace DL
open PySem PySem.Spec PyProof.Rows L2 Rh
end DL
set_option Elab.async false
set_option linter.all false
set_option maxRecDepth 100000
set_option maxHeartbeats 400000
set_option autoImplicit false
/-! offers: their keys are different, their ends; new stands by offers (plain) -/
namespace DL
open PySem PySem.Spec PyProof.Rows L2 Rh
end DL
set_option Elab.async false
set_option linter.all false
set_option maxRecDepth 100000
set_option maxHeartbeats 400000
set_option autoImplicit false
/-! the laws' own walk of all dates and new ones tells the program's stands (plain) -/
namespace DL
open PySem PySem.Spec PyProof.Rows L2 Rh
end DL
set_option Elab.async false
set_option linter.all false
set_option maxRecDepth 100000
set_option maxHeartbeats 400000
set_option autoImplicit false
/-! far out the new stands repeat with the round (plain) -/
namespace DL
open PySem PySem.Spec PyProof.Rows L2 Rh
/-- what a series shows, counted -/
theorem shown_srt (xs : List Stp) (dates : List Int) (w : Int) : (standsS xs dates w).map (·.1) = srt ((newsS xs (barS xs dates) w).map (·.1) ++ dyS xs dates w) := by
  unfold standsS
  rw [inOrd_days, List.map_append, olds_fst]
theorem shown_le (xs : List Stp) (dates : List Int) {w d : Int} (h : d ∈ (standsS xs dates w).map (·.1)) : d ≤ w := by
  rw [shown_srt] at h
  rcases List.mem_append.mp ((srt_perm _).mem_iff.mp h) with h | h
  · obtain ⟨y, hy, rfl⟩ := List.mem_map.mp h
    rw [← newsS_cut xs (barS xs dates) (Int.le_refl w)] at hy
    exact of_decide_eq_true (List.mem_filter.mp hy).2
  · obtain ⟨c, _, e⟩ := List.mem_filterMap.mp h
    cases hf : fate xs (some c) with
    | none => rw [hf] at e; cases e
    | some v =>
      rw [hf] at e
      simp only [Option.bind_some] at e
      split at e
      · cases e; assumption
      · cases e
end DL
set_option Elab.async false
set_option linter.all false
set_option maxRecDepth 100000
set_option maxHeartbeats 400000
set_option autoImplicit false
/-! keys.py: what a key finds, and the words: they answer, with small numbers -/
namespace DL
open PySem PySem.Spec PyProof.Rows L2 Rh
end DL
set_option Elab.async false
set_option linter.all false
set_option maxRecDepth 100000
set_option maxHeartbeats 400000
set_option autoImplicit false
/-! keys.py: finds_by, key_by, word_told, word_by -/
namespace DL
open PySem PySem.Spec PyProof.Rows L2 Rh
abbrev kindsKy : List Str := ["date", "number", "age", "left"]
section
variable {S : Type} {s : S} {cs : List Str} {env : Env} {ys : List Stp}
theorem kind_run {k : Nat} {a : Str} (ha : a ∈ kindsKy) (hi : env[k]? = some (va (.str a))) : ∀ b ∈ kindsKy, (asT (bin (eqD false) (rVar k) (rC (.str b))) : Env → M S Bool) env s = .ok (decide (a = b)) s := fun b hb => by
  refine asT_of (bin_of (s1 := s) (s2 := s) (x := .str a) (y := .str b) (rVar_run hi) rfl ?_)
  simp only [kindsKy, List.mem_cons, List.not_mem_nil, or_false] at ha hb
  rcases ha with rfl | rfl | rfl | rfl <;> rcases hb with rfl | rfl | rfl | rfl <;> kernel_rfl
/-! ### key_by -/
theorem some_run {p : Int → Bool} {t : Env → M S Bool} {e0 e2 : Option Slot} {dates : List Int} (hl : dates.length ≤ 12) (h : ∀ x : Int, t [e0, va (.lst (dates.map .int)), e2, va (.int x)] s = .ok (p x) s) : (bcl lenD (aCons (cmp [3] (iSq (rVar 1)) (gNm 3) t (rVar 3)) aNil) : Env → M S D) [e0, va (.lst (dates.map .int)), e2, none] s = .ok (.int ((dates.filter p).length : Int)) s := by
  refine call1_of (s1 := s) (x := .lst ((dates.filter p).map .int)) (cmp_of (iSq_of (rVar_run rfl)) (by rw [List.length_map]; exact sz6 (by omega)) ?_) ?_
  · exact cmpL_G D.int (fun x => [e0, va (.lst (dates.map .int)), e2, va (.int x)]) p D.int (fun x _ => rfl) (fun x _ => h x) fun x _ _ => rfl
  · show Res.ok (D.int (((dates.filter p).map D.int).length : Int)) s = _
    rw [List.length_map]
/-! ### word_told, word_by -/
end
end DL
set_option Elab.async false
set_option linter.all false
set_option maxRecDepth 100000
set_option maxHeartbeats 4000000
set_option autoImplicit false
/-! plain data: what == and repr are told of -/
namespace DL
open PySem PySem.Spec PyProof.Rows L2 Rh
def PlB (d : D) (dep wt : Nat) : Prop := ∃ a, pd d = some a ∧ a.canLay0 = true ∧ a.intsShort 40 = true ∧ a.showable = true ∧ PyData.strOk a.shown = true ∧ a.depth ≤ dep ∧ a.weight ≤ wt
def PlBL (ds : List D) (dep wt : Nat) : Prop := ∃ as, pdL ds = some as ∧ PyData.canLayAll0 as = true ∧ PyData.intsShortAll 40 as = true ∧ PyData.showableAll as = true ∧ (∀ t ∈ PyData.shownAll as, PyData.strOk t = true) ∧ PyData.depthAll as ≤ dep ∧ PyData.weightAll as ≤ wt
theorem PlB.mono {d : D} {a b a' b' : Nat} (h : PlB d a b) (ha : a ≤ a') (hb : b ≤ b') : PlB d a' b' := by
  obtain ⟨x, h1, h2, h3, h4, h5, h6, h7⟩ := h
  exact ⟨x, h1, h2, h3, h4, h5, by omega, by omega⟩
theorem PlBL.mono {ds : List D} {a b a' b' : Nat} (h : PlBL ds a b) (ha : a ≤ a') (hb : b ≤ b') : PlBL ds a' b' := by
  obtain ⟨x, h1, h2, h3, h4, h5, h6, h7⟩ := h
  exact ⟨x, h1, h2, h3, h4, h5, by omega, by omega⟩
theorem PlB.non : PlB .non 0 0 := ⟨.none, rfl, rfl, rfl, rfl, strOk_of "None", Nat.le_refl _, Nat.le_refl _⟩
theorem PlB.bl {b : Bool} : PlB (.bl b) 0 0 := ⟨.bool b, rfl, rfl, rfl, rfl, by cases b; exact strOk_of "False"; exact strOk_of "True", Nat.le_refl _, Nat.le_refl _⟩
theorem log_smallB {i : Int} (h : i.natAbs < 10 ^ 38) : (PyData.int i).weight ≤ 128 := by
  show (if i == 0 then 0 else i.natAbs.log2 + 1) ≤ 128
  split
  · omega
  · rename_i c
    have h0 : i.natAbs ≠ 0 := fun z => c (by simp; omega)
    have : i.natAbs.log2 < 127 := (Nat.log2_lt h0).mpr (Nat.lt_trans h (by decide))
    omega
theorem int_smallB {a : Int} (h : a.natAbs < 10 ^ 38) : a.natAbs.log2 < 1920 := by
  by_cases h0 : a.natAbs = 0
  · rw [h0]; decide
  · exact (Nat.log2_lt h0).mpr (Nat.lt_trans h (by decide))
theorem PlB.int {i : Int} (h : i.natAbs < 10 ^ 38) : PlB (.int i) 0 128 := ⟨.int i, rfl, rfl, by
  show decide ((PyData.shown (.int i)).length ≤ 40) = true
  refine decide_eq_true ?_
  have e := int_text_length_le10 (k := 38) (by decide) h
  show (Str.ofString (toString i)).length ≤ 40
  rw [PySem.ofString_length]; omega, by
  show decide _ = true
  exact decide_eq_true (int_smallB h), strOk_of _, Nat.le_refl _, log_smallB h⟩
theorem PlB.str {x : Str} (h : PyData.strOk x = true) (h' : PyData.strOk (reprText x) = true) : PlB (.str x) 0 x.cps.size := ⟨.str x, rfl, h, rfl, rfl, h', Nat.le_refl _, Nat.le_refl _⟩
theorem PlBL.nil {dep : Nat} : PlBL [] dep 0 := ⟨[], rfl, rfl, rfl, rfl, by simp [PyData.shownAll], Nat.zero_le _, Nat.le_refl _⟩
theorem PlBL.cons {d : D} {ds : List D} {a w w' : Nat} (h : PlB d a w) (k : PlBL ds a w') : PlBL (d :: ds) a (w + 1 + w') := by
  obtain ⟨x, h1, h2, h3, h4, h5, h6, h7⟩ := h
  obtain ⟨xs, k1, k2, k3, k4, k5, k6, k7⟩ := k
  refine ⟨x :: xs, by simp only [pdL, h1, k1], by simp only [PyData.canLayAll0, h2, k2, Bool.and_self], by simp only [PyData.intsShortAll, h3, k3, Bool.and_self], by simp only [PyData.showableAll, h4, k4, Bool.and_self], ?_, ?_, ?_⟩
  · intro t ht
    rcases List.mem_cons.mp (show t ∈ x.shown :: PyData.shownAll xs from ht) with rfl | ht
    · exact h5
    · exact k5 t ht
  · show max x.depth (PyData.depthAll xs) ≤ a
    omega
  · show x.weight + 1 + PyData.weightAll xs ≤ _
    omega
theorem PlBL.map {T : Type} {f : T → D} {a w : Nat} : ∀ {xs : List T}, (∀ x ∈ xs, PlB (f x) a w) → PlBL (xs.map f) a ((w + 1) * xs.length)
  | [], _ => PlBL.nil
  | x :: xs, h => by
    have ih := PlBL.map (xs := xs) fun y hy => h y (List.mem_cons_of_mem _ hy)
    have := PlBL.cons (h x List.mem_cons_self) ih
    rw [List.length_cons, Nat.mul_succ]
    exact this.mono (Nat.le_refl _) (by omega)
theorem PlBL.all {a w : Nat} {ds : List D} (h : ∀ d ∈ ds, PlB d a w) : PlBL ds a ((w + 1) * ds.length) := by
  have := PlBL.map (f := id) (xs := ds) h
  rw [List.map_id] at this
  exact this
theorem PlBL.append {ds es : List D} {a w w' : Nat} (h : PlBL ds a w) (k : PlBL es a w') : PlBL (ds ++ es) a (w + w') := by
  obtain ⟨xs, h1, h2, h3, h4, h5, h6, h7⟩ := h
  induction ds generalizing xs w with
  | nil => cases h1; exact k.mono (Nat.le_refl _) (by omega)
  | cons d ds ih =>
    unfold pdL at h1
    cases hd : pd d with
    | none => rw [hd] at h1; cases h1
    | some x =>
      cases hs : pdL ds with
      | none => rw [hd, hs] at h1; cases h1
      | some ys =>
        rw [hd, hs] at h1
        cases h1
        simp only [PyData.canLayAll0, PyData.intsShortAll, PyData.showableAll, Bool.and_eq_true] at h2 h3 h4
        have h6 : max x.depth (PyData.depthAll ys) ≤ a := h6
        have h7 : x.weight + 1 + PyData.weightAll ys ≤ w := h7
        have := PlBL.cons (d := d) (a := a) (w := x.weight) ⟨x, hd, h2.1, h3.1, h4.1, h5 _ List.mem_cons_self, by omega, Nat.le_refl _⟩ (ih (w := PyData.weightAll ys) ys hs h2.2 h3.2 h4.2 (fun t ht => h5 t (List.mem_cons_of_mem _ ht)) (by omega) (Nat.le_refl _))
        exact this.mono (Nat.le_refl _) (by omega)
theorem strOk_joinB : ∀ {ts : List Str}, (∀ t ∈ ts, PyData.strOk t = true) → PyData.strOk (Str.join ", " ts) = true
  | [], _ => strOk_of ""
  | [x], h => h x List.mem_cons_self
  | x :: y :: r, h => by
    show PyData.strOk (x ++ ", " ++ Str.join ", " (y :: r)) = true
    exact strOk_app (strOk_app (h x List.mem_cons_self) (strOk_of _)) (strOk_joinB fun t ht => h t (List.mem_cons_of_mem _ ht))
theorem strOk_tupB {ts : List Str} (h : ∀ t ∈ ts, PyData.strOk t = true) : PyData.strOk (tupleText ts) = true := strOk_app (strOk_app (strOk_of _) (strOk_joinB h)) (strOk_of _)
theorem PlB.lst {ds : List D} {a w : Nat} (h : PlBL ds a w) : PlB (.lst ds) (a + 1) w := by
  obtain ⟨xs, h1, h2, h3, h4, h5, h6, h7⟩ := h
  refine ⟨.list xs, ?_, h2, h3, h4, strOk_list h5, ?_, h7⟩
  · show (pdL ds).map PyData.list = _
    rw [h1]; rfl
  · show PyData.depthAll xs + 1 ≤ a + 1
    omega
theorem PlB.tup {ds : List D} {a w : Nat} (h : PlBL ds a w) : PlB (.tup ds) (a + 1) w := by
  obtain ⟨xs, h1, h2, h3, h4, h5, h6, h7⟩ := h
  refine ⟨.tuple xs, ?_, h2, h3, h4, strOk_tupB h5, ?_, h7⟩
  · show (pdL ds).map PyData.tuple = _
    rw [h1]; rfl
  · show PyData.depthAll xs + 1 ≤ a + 1
    omega
section
variable {S : Type} {s : S} {env : Env}
theorem PlB.eq {d : D} {a w : Nat} (h : PlB d a w) (ha : a ≤ 64) {neg : Bool} : (eqD neg d d : M S D) s = .ok (.bl (!neg)) s := by
  obtain ⟨x, h1, h2, h3, h4, h5, h6, h7⟩ := h
  have hs : SeqAt.shaped x = true := by
    unfold SeqAt.shaped
    rw [h2, decide_eq_true (by omega)]; rfl
  have e : eqP d d = some true := by
    unfold eqP
    rw [h1]
    show (if _ then some _ else none) = _
    rw [if_pos ⟨hs, hs⟩, SeqAt.eqv_refl x h2]
  unfold eqD; rw [e]; cases neg <;> rfl
theorem PlB.shw {d : D} {a w : Nat} (h : PlB d a w) (ha : a ≤ 64) (hw : w ≤ 300000) : Shw d := by
  obtain ⟨x, h1, h2, h3, h4, h5, h6, h7⟩ := h
  have hf : x.shown.length ≤ sizeLine := by
    have h := PyData.shown_le 40 (by decide) x (PyData.leavesShort_of_canLay0 40 x h2 h3)
    have h9 : (40 + 2) * x.weight ≤ 42 * 300000 := Nat.mul_le_mul (by omega) (by omega)
    rw [sizeLine_eq]
    omega
  have hsd : shwD d = some x := by
    cases d <;> first | exact h1 | cases h1
  refine ⟨x.shown, fun s => ⟨?_, ?_⟩⟩
  · show (match shwD d with
      | some a => grd (a.showable = true ∧ a.depth ≤ 64 ∧ a.shown.length ≤ sizeLine) (pure (.str a.shown))
      | none => stk : M DrS D) s = _
    rw [hsd]
    show (grd (x.showable = true ∧ x.depth ≤ 64 ∧ x.shown.length ≤ sizeLine) (pure (.str x.shown)) : M DrS D) s = _
    rw [grd_pos ⟨h4, by omega, hf⟩]; rfl
  · have e : eqP (.str x.shown) (.str x.shown) = some true := by
      show (if SeqAt.shaped (.str x.shown) = true ∧ SeqAt.shaped (.str x.shown) = true then some (PyData.eqv (.str x.shown) (.str x.shown)) else none) = _
      rw [if_pos ⟨shaped_str h5, shaped_str h5⟩]
      simp only [PyData.eqv, beq_self_eq_true]
    unfold eqD; rw [e]; rfl
end
end DL
set_option Elab.async false
set_option linter.all false
set_option maxRecDepth 100000
set_option maxHeartbeats 1000000
set_option autoImplicit false
/-! what laws of refusals share: errors out of defs, dates that are none, words -/
namespace DL
open PySem PySem.Spec PyProof.Rows L2 Rh
def resO {S : Type} (o : Option D) (s : S) : Res S D := match o with
  | none => .ok .non s
  | some x => .err x s
def resF {S : Type} (o : Option D) (env : Env) (s : S) : Res S Flw := match o with
  | none => .ok (.nx env) s
  | some x => .err x s
def shT (n : Int) : Str := PyData.shown (.int n)
section
variable {S : Type} {s : S} {cs : List Str}
theorem runB_err {rd : Env → M S Flw} {N : List Str} {ds : List D} {x : D} {s' : S} (h : rd (startE N ds) s = .err x s') : runB rd N ds s = .err x s' := by unfold runB; rw [h]
theorem runB_nx {rd : Env → M S Flw} {N : List Str} {ds : List D} {e : Env} {s' : S} (h : rd (startE N ds) s = .ok (.nx e) s') : runB rd N ds s = .ok .non s' := by unfold runB; rw [h]
theorem seq_err {env : Env} {a b : Env → M S Flw} {x : D} {s1 : S} (h : a env s = .err x s1) : sSeq a b env s = .err x s1 := by rw [sSeq_run, h]; rfl
/-- a def's check, dropped -/
theorem drop_res {env : Env} {τ : Env → M S D} {o : Option D} (h : τ env s = resO o s) : sDrop τ env s = resF o env s := by
  rw [sDrop_run, h]
  cases o <;> rfl
theorem dates_no {d : D} (h : okD cs d = true) (hs : isSeqD d = false) : (sem_are_dates cs [d] : M S D) s = .ok (.bl false) s := by
  refine runB_rt ?_
  show rd_are_dates cs [va d] s = _
  unfold rd_are_dates
  refine ret_of ?_
  have e1 : (cal (sem_is_list cs) [] 1 (aCons (rVar 0) aNil) : Env → M S D) [va d] s = .ok (.bl false) s := by
    have := cal1_of (env := [va d]) (τ := rVar 0) (sem := sem_is_list cs) (x := d) (s := s) (rVar_run rfl) (sem_isl h)
    rw [hs] at this; exact this
  rw [andV_run, e1, Res.bind_ok, truD_bl, Res.bind_ok, if_neg (by decide)]
theorem dates_seq {ds : List D} (hk : ds.all (okD cs) = true) (hl : ds.length ≤ 4000) : (sem_are_dates cs [.lst ds] : M S D) s = .ok (.bl (decide (ds.length ≤ 12) && diffs 0 1000 ds)) s := by
  refine runB_rt ?_
  show rd_are_dates cs [va (.lst ds)] s = _
  unfold rd_are_dates
  refine ret_of ?_
  have e1 : (cal (sem_is_list cs) [] 1 (aCons (rVar 0) aNil) : Env → M S D) [va (.lst ds)] s = .ok (.bl true) s := cal1_of (x := .lst ds) (rVar_run rfl) (sem_isl (cs := cs) rfl)
  have e2 : (bin leD (bcl lenD (aCons (rVar 0) aNil)) (rC (.int 12)) : Env → M S D) [va (.lst ds)] s = .ok (.bl (decide (ds.length ≤ 12))) s := by
    refine bin_of (s1 := s) (s2 := s) (x := .int (ds.length : Int)) (y := .int 12) (call1_of (s1 := s) (x := .lst ds) (rVar_run rfl) rfl) rfl ?_
    show Res.ok (D.bl (decide ((ds.length : Int) ≤ 12))) s = _
    have : decide ((ds.length : Int) ≤ 12) = decide (ds.length ≤ 12) := by
      by_cases q : ds.length ≤ 12
      · rw [decide_eq_true q, decide_eq_true (by omega)]
      · rw [decide_eq_false q, decide_eq_false (by omega)]
    rw [this]
  have e3 : (cal (sem_are_different cs) [] 3 (aCons (rVar 0) (aCons (rC (.int 0)) (aCons (rC (.int 1000)) aNil))) : Env → M S D) [va (.lst ds)] s = .ok (.bl (diffs 0 1000 ds)) s := sem_dif (.inl rfl) hl hk
  rw [andV_run, e1, Res.bind_ok, truD_bl, Res.bind_ok, if_pos rfl, andV_run, e2, Res.bind_ok, truD_bl, Res.bind_ok]
  by_cases q : ds.length ≤ 12
  · rw [decide_eq_true q, if_pos rfl, e3, Bool.true_and]
  · rw [decide_eq_false q, if_neg (by decide), Bool.false_and]
theorem are_dates_ok {dates : List Int} (hd : Dts dates) {dt : D} (hdt : dt = .lst (dates.map .int) ∨ dt = .tup (dates.map .int)) : (sem_are_dates cs [dt] : M S D) s = .ok (.bl true) s := by
  have h1 : (sem_is_list cs [dt] : M S D) s = .ok (.bl true) s := by
    rcases hdt with rfl | rfl <;> exact sem_isl (cs := cs) rfl
  have h2 : (sem_are_different cs [dt, .int 0, .int 1000] : M S D) s = .ok (.bl true) s := by
    refine (sem_dif (ds := dates.map .int) hdt (by rw [List.length_map]; have := hd.few; omega) ?_).trans ?_
    · rw [List.all_map]
      exact List.all_eq_true.mpr fun n _ => rfl
    · have : diffs 0 1000 (dates.map .int) = true := by
        unfold diffs
        rw [num_all dates hd.lo, intsD_of]
        simp [hd.nd]
      rw [this]
  refine runB_rt ?_
  show rd_are_dates cs [some (.val dt)] s = _
  unfold rd_are_dates
  refine ret_of ?_
  have e1 : (cal (sem_is_list cs) [] 1 (aCons (rVar 0) aNil) : Env → M S D) [some (.val dt)] s = .ok (.bl true) s := cal1_of rfl h1
  have hlen : (lenD [dt] : M S D) s = .ok (.int (dates.length : Int)) s := by
    have q : dates.length = (dates.map D.int).length := by rw [List.length_map]
    rcases hdt with rfl | rfl
    · rw [q]; rfl
    · rw [q]; rfl
  have e2 : (bin leD (bcl lenD (aCons (rVar 0) aNil)) (rC (.int 12)) : Env → M S D) [some (.val dt)] s = .ok (.bl true) s := by
    refine bin_of (s1 := s) (s2 := s) (x := .int (dates.length : Int)) (y := .int 12) (call1_of (s1 := s) rfl hlen) rfl ?_
    show Res.ok (D.bl (decide ((dates.length : Int) ≤ 12))) s = _
    rw [decide_eq_true (by have := hd.few; omega)]
  have e3 : (cal (sem_are_different cs) [] 3 (aCons (rVar 0) (aCons (rC (.int 0)) (aCons (rC (.int 1000)) aNil))) : Env → M S D) [some (.val dt)] s = .ok (.bl true) s := h2
  rw [andV_run, e1, Res.bind_ok, truD_bl, Res.bind_ok, if_pos rfl, andV_run, e2, Res.bind_ok, truD_bl, Res.bind_ok, if_pos rfl, e3]
theorem shT_len {n : Int} (h : n.natAbs < 10 ^ 30) : (shT n).length ≤ 40 := by
  obtain ⟨x, h1, h2, h3, h4, h5, h6, h7⟩ := PlB.int (i := n) (Nat.lt_trans h (by decide))
  cases h1
  exact of_decide_eq_true h3
theorem repr_int {n : Int} (h : n.natAbs < 10 ^ 30) : (reprD [.int n] : M S D) s = .ok (.str (shT n)) s := by
  obtain ⟨x, h1, h2, h3, h4, h5, h6, h7⟩ := PlB.int (i := n) (Nat.lt_trans h (by decide))
  cases h1
  have hl := shT_len h
  show (grd ((PyData.int n).showable = true ∧ (PyData.int n).depth ≤ 64 ∧ (PyData.int n).shown.length ≤ sizeLine) (pure (.str (PyData.int n).shown)) : M S D) s = _
  rw [grd_pos ⟨h4, by omega, by rw [sizeLine_eq]; show (shT n).length ≤ _; omega⟩]; rfl
theorem eqD_str {a b : Str} (ha : PyData.strOk a = true) (hb : PyData.strOk b = true) {neg : Bool} : (eqD neg (.str a) (.str b) : M S D) s = .ok (.bl (if neg then !(a == b) else a == b)) s := by
  have e : eqP (.str a) (.str b) = some (a == b) := by
    show (if SeqAt.shaped (.str a) = true ∧ SeqAt.shaped (.str b) = true then some (PyData.eqv (.str a) (.str b)) else none) = _
    rw [if_pos ⟨shaped_str ha, shaped_str hb⟩]; rfl
  unfold eqD; rw [e]; rfl
end
end DL
set_option Elab.async false
set_option linter.all false
set_option maxRecDepth 100000
set_option maxHeartbeats 1000000
set_option autoImplicit false
/-! plain data that may hold dicts of leaves: what repr is told of -/
namespace DL
open PySem PySem.Spec PyProof.Rows L2 Rh
/-- values without objects -/
def plV : D → Bool
  | .non => true
  | .bl _ => true
  | .int _ => true
  | .str _ => true
  | .lst _ => true
  | .tup _ => true
  | .dct _ => true
  | _ => false
theorem plV_ok {cs : List Str} {d : D} (h : plV d = true) : okD cs d = true := by cases d <;> first | rfl | cases h
def PlN (d : D) (dep wt : Nat) : Prop := ∃ a, pdN d = some a ∧ a.leavesShort 40 = true ∧ a.showable = true ∧ PyData.strOk a.shown = true ∧ a.depth ≤ dep ∧ a.bulk ≤ wt
def PlNL (ds : List D) (dep wt : Nat) : Prop := ∃ as, pdNL ds = some as ∧ PyData.leavesShortAll 40 as = true ∧ PyData.showableAll as = true ∧ (∀ t ∈ PyData.shownAll as, PyData.strOk t = true) ∧ PyData.depthAll as ≤ dep ∧ PyData.bulkAll as ≤ wt
theorem PlN.mono {d : D} {a b a' b' : Nat} (h : PlN d a b) (ha : a ≤ a') (hb : b ≤ b') : PlN d a' b' := by
  obtain ⟨x, h1, h2, h3, h4, h5, h6⟩ := h
  exact ⟨x, h1, h2, h3, h4, by omega, by omega⟩
theorem PlNL.mono {ds : List D} {a b a' b' : Nat} (h : PlNL ds a b) (ha : a ≤ a') (hb : b ≤ b') : PlNL ds a' b' := by
  obtain ⟨x, h1, h2, h3, h4, h5, h6⟩ := h
  exact ⟨x, h1, h2, h3, h4, by omega, by omega⟩
theorem PlN.int {i : Int} (h : i.natAbs < 10 ^ 38) : PlN (.int i) 0 0 := by
  obtain ⟨x, h1, h2, h3, h4, h5, h6, h7⟩ := PlB.int h
  cases h1
  exact ⟨.int i, rfl, h3, h4, h5, Nat.le_refl _, Nat.le_refl _⟩
theorem PlNL.nil {dep : Nat} : PlNL [] dep 0 := ⟨[], rfl, rfl, rfl, by simp [PyData.shownAll], Nat.zero_le _, Nat.le_refl _⟩
theorem PlNL.cons {d : D} {ds : List D} {a w w' : Nat} (h : PlN d a w) (k : PlNL ds a w') : PlNL (d :: ds) a (w + 1 + w') := by
  obtain ⟨x, h1, h3, h4, h5, h6, h7⟩ := h
  obtain ⟨xs, k1, k3, k4, k5, k6, k7⟩ := k
  refine ⟨x :: xs, by simp only [pdNL, h1, k1], by simp only [PyData.leavesShortAll, h3, k3, Bool.and_self], by simp only [PyData.showableAll, h4, k4, Bool.and_self], ?_, ?_, ?_⟩
  · intro t ht
    rcases List.mem_cons.mp (show t ∈ x.shown :: PyData.shownAll xs from ht) with rfl | ht
    · exact h5
    · exact k5 t ht
  · show max x.depth (PyData.depthAll xs) ≤ a
    omega
  · show x.bulk + 1 + PyData.bulkAll xs ≤ _
    omega
theorem PlNL.all {a w : Nat} : ∀ {ds : List D}, (∀ d ∈ ds, PlN d a w) → PlNL ds a ((w + 1) * ds.length)
  | [], _ => PlNL.nil
  | x :: xs, h => by
    have ih := PlNL.all (ds := xs) fun y hy => h y (List.mem_cons_of_mem _ hy)
    have := PlNL.cons (h x List.mem_cons_self) ih
    rw [List.length_cons, Nat.mul_succ]
    exact this.mono (Nat.le_refl _) (by omega)
theorem PlN.lst {ds : List D} {a w : Nat} (h : PlNL ds a w) : PlN (.lst ds) (a + 1) w := by
  obtain ⟨xs, h1, h3, h4, h5, h6, h7⟩ := h
  refine ⟨.list xs, ?_, h3, h4, strOk_list h5, ?_, h7⟩
  · show (pdNL ds).map PyData.list = _
    rw [h1]; rfl
  · show PyData.depthAll xs + 1 ≤ a + 1
    omega
theorem PlN.tup {ds : List D} {a w : Nat} (h : PlNL ds a w) : PlN (.tup ds) (a + 1) w := by
  obtain ⟨xs, h1, h3, h4, h5, h6, h7⟩ := h
  refine ⟨.tuple xs, ?_, h3, h4, strOk_tupB h5, ?_, h7⟩
  · show (pdNL ds).map PyData.tuple = _
    rw [h1]; rfl
  · show PyData.depthAll xs + 1 ≤ a + 1
    omega
section
variable {S : Type} {s : S} {cs : List Str}
theorem PlN.repr {d : D} {a w : Nat} (h : PlN d a w) (ha : a ≤ 64) (hw : w ≤ 300000) : ∃ z : Str, PyData.strOk z = true ∧ ∀ (S : Type) (s : S), (reprN [d] : M S D) s = .ok (.str z) s := by
  obtain ⟨x, h1, h3, h4, h5, h6, h7⟩ := h
  have hf : x.shown.length ≤ sizeLine := by
    have h := PyData.shown_le_bulk 40 (by decide) x h3
    have h9 : (40 + 2) * x.bulk ≤ 42 * 300000 := Nat.mul_le_mul (by omega) (by omega)
    rw [sizeLine_eq]
    omega
  refine ⟨x.shown, h5, fun S s => ?_⟩
  show (match pdN d with
      | some a => grd (a.showable = true ∧ a.depth ≤ 64 ∧ a.shown.length ≤ sizeLine) (pure (.str a.shown))
      | none => stk : M S D) s = _
  rw [h1]
  show (grd (x.showable = true ∧ x.depth ≤ 64 ∧ x.shown.length ≤ sizeLine) (pure (.str x.shown)) : M S D) s = _
  rw [grd_pos ⟨h4, by omega, hf⟩]; rfl
/-- a value, and its text -/
structure Shn (d : D) (t : Str) : Prop where
  pl : plV d = true
  nst : PlN d 2 100
  txt : PyData.strOk t = true
  len : t.length ≤ 200
  rep : ∀ (S : Type) (s : S), (reprD [d] : M S D) s = .ok (.str t) s
theorem shn_int {n : Int} (h : n.natAbs < 10 ^ 38) : Shn (.int n) (shT n) where
  pl := rfl
  nst := (PlN.int h).mono (by omega) (by omega)
  txt := strOk_of _
  len := by
    obtain ⟨x, h1, h2, h3, h4, h5, h6, h7⟩ := PlB.int h
    cases h1
    have := of_decide_eq_true h3
    show (PyData.shown (.int n)).length ≤ 200
    omega
  rep := fun S s => by
    obtain ⟨x, h1, h2, h3, h4, h5, h6, h7⟩ := PlB.int h
    cases h1
    have := of_decide_eq_true h3
    show (grd ((PyData.int n).showable = true ∧ (PyData.int n).depth ≤ 64 ∧ (PyData.int n).shown.length ≤ sizeLine) (pure (.str (PyData.int n).shown)) : M S D) s = _
    rw [grd_pos ⟨h4, by omega, by rw [sizeLine_eq]; omega⟩]; rfl
theorem shn_of {d : D} {a : PyData} (h0 : plV d = true) (h : shwD d = some a) (h' : pdN d = some a) (h1 : a.leavesShort 40 = true) (h2 : a.showable = true) (h3 : PyData.strOk a.shown = true) (h4 : a.depth ≤ 2) (h5 : a.bulk ≤ 100) (h6 : a.shown.length ≤ 200) : Shn d a.shown where
  pl := h0
  nst := ⟨a, h', h1, h2, h3, h4, h5⟩
  txt := h3
  len := h6
  rep := fun S s => by
    show (match shwD d with
      | some a => grd (a.showable = true ∧ a.depth ≤ 64 ∧ a.shown.length ≤ sizeLine) (pure (.str a.shown))
      | none => stk : M S D) s = _
    rw [h]
    show (grd (a.showable = true ∧ a.depth ≤ 64 ∧ a.shown.length ≤ sizeLine) (pure (.str a.shown)) : M S D) s = _
    rw [grd_pos ⟨h2, by omega, by rw [sizeLine_eq]; omega⟩]; rfl
abbrev oddS : List D := [.non, .str "a", .str "", .bl true, .int (-1), .tup [], .lst [], .dct [], .tup [.int 0], .lst [.str "date"], .dct [(.inr "a", .int 0)], .int (10 ^ 30)]
theorem odd_shn : ∀ d ∈ oddS, ∃ t, Shn d t := by
  simp only [oddS, List.forall_mem_cons, List.not_mem_nil, false_implies, implies_true, and_true]
  refine ⟨⟨_, shn_of rfl rfl rfl ?_ ?_ ?_ ?_ ?_ ?_⟩, ⟨_, shn_of rfl rfl rfl ?_ ?_ ?_ ?_ ?_ ?_⟩, ⟨_, shn_of rfl rfl rfl ?_ ?_ ?_ ?_ ?_ ?_⟩, ⟨_, shn_of rfl rfl rfl ?_ ?_ ?_ ?_ ?_ ?_⟩, ⟨_, shn_int (by decide)⟩, ⟨_, shn_of rfl rfl rfl ?_ ?_ ?_ ?_ ?_ ?_⟩, ⟨_, shn_of rfl rfl rfl ?_ ?_ ?_ ?_ ?_ ?_⟩, ⟨_, shn_of rfl rfl rfl ?_ ?_ ?_ ?_ ?_ ?_⟩, ⟨_, shn_of rfl rfl rfl ?_ ?_ ?_ ?_ ?_ ?_⟩, ⟨_, shn_of rfl rfl rfl ?_ ?_ ?_ ?_ ?_ ?_⟩, ⟨_, shn_of rfl rfl rfl ?_ ?_ ?_ ?_ ?_ ?_⟩, ⟨_, shn_int (by decide)⟩⟩ <;> decide +kernel
end
end DL
set_option Elab.async false
set_option linter.all false
set_option maxRecDepth 100000
set_option maxHeartbeats 1000000
set_option autoImplicit false
/-! k23 (as in k26): what is let, and what is refused -/
namespace DL
open PySem PySem.Spec PyProof.Rows L2 Rh
abbrev xDat : D := .exc "BadDates" []
abbrev xKind (v : D) : D := .exc "BadKind" [("kind", v)]
abbrev xDate (v : D) : D := .exc "NoDate" [("date", v)]
section
variable {S : Type} {s : S} {cs : List Str}
theorem needdatesX_of {d : D} {b : Bool} (h : (sem_are_dates cs [d] : M S D) s = .ok (.bl b) s) : (sem_need_datesX cs [d] : M S D) s = resO (if b then none else some xDat) s := by
  have e : (notT (asT (cal (sem_are_dates cs) [] 1 (aCons (rVar 0) aNil))) : Env → M S Bool) [va d] s = .ok (!b) s := not_of (asT_of (cal1_of (x := d) (rVar_run rfl) h))
  cases b with
  | true =>
    refine runB_nx (e := [va d]) ?_
    show rd_need_datesX cs [va d] s = _
    unfold rd_need_datesX
    exact if_f e rfl
  | false =>
    refine runB_err ?_
    show rd_need_datesX cs [va d] s = _
    unfold rd_need_datesX
    exact if_t e rfl
/-! ### the law's own look at dates -/
theorem diffs_out {xs r : List D} {d : D} (h : numIn 0 1000 d = false) : diffs 0 1000 (xs ++ d :: r) = false := by
  unfold diffs
  rw [List.all_append, List.all_cons, h, Bool.false_and, Bool.and_false, Bool.false_and]
theorem intsD_all : ∀ {ds : List D}, ds.all (numIn 0 1000) = true → ∃ ns : List Int, ds = ns.map .int
  | [], _ => ⟨[], rfl⟩
  | d :: ds, h => by
    rw [List.all_cons, Bool.and_eq_true] at h
    obtain ⟨ns, rfl⟩ := intsD_all h.2
    cases d with
    | int n => exact ⟨n :: ns, rfl⟩
    | _ => cases h.1
theorem diffs_twice {pre : List Int} {r : List D} {n : Int} (h : n ∈ pre) : diffs 0 1000 (pre.map .int ++ .int n :: r) = false := by
  cases hd : diffs 0 1000 (pre.map .int ++ .int n :: r) with
  | false => rfl
  | true =>
    unfold diffs at hd
    rw [Bool.and_eq_true] at hd
    obtain ⟨ns, e⟩ := intsD_all hd.1
    have h2 := hd.2
    rw [e, intsD_of] at h2
    have h2 : ns.Nodup := of_decide_eq_true h2
    have hr : (.int n :: r : List D).all (numIn 0 1000) = true := by
      have := hd.1
      rw [List.all_append, Bool.and_eq_true] at this
      exact this.2
    obtain ⟨ms, er⟩ := intsD_all hr
    rw [er, ← List.map_append] at e
    have inj : ∀ a b : List Int, a.map D.int = b.map D.int → a = b := fun a => by
      induction a with
      | nil => intro b e; cases b with | nil => rfl | cons _ _ => cases e
      | cons x a ih => intro b e; cases b with
        | nil => cases e
        | cons y b => rw [List.map_cons, List.map_cons] at e; injection e with e1 e2; cases e1; rw [ih b e2]
    have := inj _ _ e
    rw [← this, List.nodup_append] at h2
    have hm : n ∈ ms := by
      cases ms with
      | nil => cases er
      | cons m ms => rw [List.map_cons] at er; injection er with e1 e2; cases e1; exact List.mem_cons_self
    exact absurd rfl (h2.2.2 n h n hm)
abbrev tAre {S : Type} (cs : List Str) : Env → M S Bool := (orT (notT (asT (isi (tb_kit_ty_int cs) (rVar 2)))) (orT (asT (isi (tb_kit_ty_bool cs) (rVar 2))) (orT (notT (asT (chn leD leD (rC (.int 0)) (rVar 2) (rC (.int 1000))))) (asT (bin (inD false) (rVar 2) (slcD (bcl listD (aCons (rVar 0) aNil)) oNone (oSome (rVar 1))))))))
theorem are_for {A : D} {ds : List D} (hA : A = .lst ds ∨ A = .tup ds) : ∀ (tail : List D) (pre : List Int) (x1 x2 : Option Slot), ds = pre.map .int ++ tail → (∀ n ∈ pre, 0 ≤ n ∧ n ≤ 1000) → pre.Nodup → (∀ d ∈ tail, plV d = true) →
    ∃ y1 y2, forL (gTp 2 (gsCons (gNm 1) (gsCons (gNm 2) gsNil))) (sIf (tAre cs) (sRet (rC (.bl false))) sNx : Env → M S Flw) (enumL pre.length tail) [va A, x1, x2] s = (if diffs 0 1000 ds = true then .ok (.nx [va A, y1, y2]) s else .ok (.rt (.bl false)) s)
  | [], pre, x1, x2, e, hb, hn, _ => by
    refine ⟨x1, x2, ?_⟩
    rw [List.append_nil] at e
    rw [if_pos]
    · rfl
    · rw [e]
      unfold diffs
      rw [num_all pre hb, intsD_of]
      exact decide_eq_true hn
  | d :: r, pre, x1, x2, e, hb, hn, hp => by
    have hpd := hp d List.mem_cons_self
    have go : ∀ b : Bool, (tAre cs : Env → M S Bool) [va A, va (.int (pre.length : Int)), va d] s = .ok b s → forL (gTp 2 (gsCons (gNm 1) (gsCons (gNm 2) gsNil))) (sIf (tAre cs) (sRet (rC (.bl false))) sNx : Env → M S Flw) (enumL pre.length (d :: r)) [va A, x1, x2] s = (if b then .ok (.rt (.bl false)) s else forL (gTp 2 (gsCons (gNm 1) (gsCons (gNm 2) gsNil))) (sIf (tAre cs) (sRet (rC (.bl false))) sNx : Env → M S Flw) (enumL (pre.length + 1) r) [va A, va (.int (pre.length : Int)), va d] s) := fun b eb => by
      show (((sIf (tAre cs) (sRet (rC (.bl false))) sNx : Env → M S Flw) [va A, va (.int (pre.length : Int)), va d] s).bind _) = _
      cases b with
      | true =>
        have e3 : (sIf (tAre cs) (sRet (rC (.bl false))) sNx : Env → M S Flw) [va A, va (.int (pre.length : Int)), va d] s = .ok (.rt (.bl false)) s := if_t eb rfl
        rw [e3]; rfl
      | false =>
        have e3 : (sIf (tAre cs) (sRet (rC (.bl false))) sNx : Env → M S Flw) [va A, va (.int (pre.length : Int)), va d] s = .ok (.nx [va A, va (.int (pre.length : Int)), va d]) s := if_f eb rfl
        rw [e3]; rfl
    by_cases hi : ∃ n, d = .int n
    · obtain ⟨n, rfl⟩ := hi
      have q1 : (notT (asT (isi (tb_kit_ty_int cs) (rVar 2))) : Env → M S Bool) [va A, va (.int (pre.length : Int)), va (.int n)] s = .ok false s := not_of (b := true) (asT_of (isi_of1 (x := .int n) (s1 := s) (rVar_run rfl) (by kernel_rfl)))
      have q2 : (asT (isi (tb_kit_ty_bool cs) (rVar 2)) : Env → M S Bool) [va A, va (.int (pre.length : Int)), va (.int n)] s = .ok false s := asT_of (isi_of1 (x := .int n) (s1 := s) (rVar_run rfl) (by kernel_rfl))
      have q3 : (notT (asT (chn leD leD (rC (.int 0)) (rVar 2) (rC (.int 1000)))) : Env → M S Bool) [va A, va (.int (pre.length : Int)), va (.int n)] s = .ok (!decide (0 ≤ n ∧ n ≤ 1000)) s := not_of (DetT.chn (i := 0) (j := n) (k := 1000) Det.c (Det.var rfl) Det.c s)
      by_cases hr : 0 ≤ n ∧ n ≤ 1000
      · rw [decide_eq_true hr] at q3
        have q4 : (asT (bin (inD false) (rVar 2) (slcD (bcl listD (aCons (rVar 0) aNil)) oNone (oSome (rVar 1)))) : Env → M S Bool) [va A, va (.int (pre.length : Int)), va (.int n)] s = .ok (decide (n ∈ pre)) s := by
          refine asT_of (bin_of (s1 := s) (s2 := s) (x := .int n) (y := .lst (pre.map .int)) (rVar_run rfl) ?_ (by rw [inL_of]; rfl))
          have eL : Det (bcl listD (aCons (rVar 0) aNil) : Env → M S D) [va A, va (.int (pre.length : Int)), va (.int n)] (.lst ds) := fun s => call1_of (x := A) (s1 := s) (rVar_run rfl) (by rcases hA with rfl | rfl <;> rfl)
          have := Det.slcTo (k := pre.length) eL (Det.var (i := 1) rfl) s
          rw [this, e]
          congr 2
          rw [List.take_append_of_le_length (by rw [List.length_map]; exact Nat.le_refl _), List.take_of_length_le (by rw [List.length_map]; exact Nat.le_refl _)]
        have eT := go _ (or_f q1 (or_f q2 (or_f q3 q4)))
        by_cases hm : n ∈ pre
        · rw [decide_eq_true hm, if_pos rfl] at eT
          refine ⟨x1, x2, ?_⟩
          rw [eT, e, diffs_twice hm]; rfl
        · rw [decide_eq_false hm, if_neg (by decide)] at eT
          obtain ⟨y1, y2, ih⟩ := are_for hA r (pre ++ [n]) (va (.int (pre.length : Int))) (va (.int n)) (by rw [e, List.map_append, List.append_assoc]; rfl) (fun m h => by
            rcases List.mem_append.mp h with h | h
            · exact hb m h
            · cases List.mem_singleton.mp h; exact hr) (by
            rw [List.nodup_append]
            exact ⟨hn, by simp, fun a ha b hb' e => by cases List.mem_singleton.mp hb'; exact hm (e ▸ ha)⟩) fun d h => hp d (List.mem_cons_of_mem _ h)
          refine ⟨y1, y2, ?_⟩
          rw [List.length_append, List.length_singleton] at ih
          rw [eT, ih]
      · rw [decide_eq_false hr] at q3
        have eT := go _ (or_f q1 (or_f q2 (or_t q3)))
        refine ⟨x1, x2, ?_⟩
        rw [eT, e, diffs_out (d := .int n) (by
          show (decide (0 ≤ n) && decide (n ≤ 1000)) = false
          rw [Bool.and_eq_false_iff, decide_eq_false_iff_not, decide_eq_false_iff_not]
          omega)]; rfl
    · have eN : numIn 0 1000 d = false := by cases d <;> first | rfl | exact absurd ⟨_, rfl⟩ hi
      refine ⟨x1, x2, ?_⟩
      have qt : (tAre cs : Env → M S Bool) [va A, va (.int (pre.length : Int)), va d] s = .ok true s := by
        by_cases hb' : ∃ b, d = .bl b
        · obtain ⟨b, rfl⟩ := hb'
          refine or_f (s1 := s) (not_of (b := true) (asT_of (isi_of1 (x := .bl b) (s1 := s) (rVar_run rfl) (by kernel_rfl)))) (or_t (asT_of (isi_of1 (x := .bl b) (s1 := s) (rVar_run rfl) (by kernel_rfl))))
        · refine or_t (not_of (b := false) (asT_of (isi_of1 (x := d) (s1 := s) (rVar_run rfl) ?_)))
          cases d with
          | int n => exact absurd ⟨n, rfl⟩ hi
          | bl b => exact absurd ⟨b, rfl⟩ hb'
          | non => kernel_rfl
          | str _ => kernel_rfl
          | lst _ => kernel_rfl
          | tup _ => kernel_rfl
          | dct _ => kernel_rfl
          | _ => cases hpd
      rw [go _ qt, e, diffs_out eN]; rfl
theorem law_dates {A : D} {ds : List D} (hA : A = .lst ds ∨ A = .tup ds) (hp : ∀ d ∈ ds, plV d = true) (hl : ds.length ≤ 1000) : (sem__law_are_dates cs [A] : M S D) s = .ok (.bl (decide (ds.length ≤ 12) && diffs 0 1000 ds)) s := by
  have q1 : (notT (asT (isi (tb_kit_two_list_tuple cs) (rVar 0))) : Env → M S Bool) [va A, none, none] s = .ok false s := not_of (b := true) (asT_of (isi_of1 (x := A) (s1 := s) (rVar_run rfl) (by rcases hA with rfl | rfl <;> kernel_rfl)))
  have q2 : (asT (bin gtD (bcl lenD (aCons (rVar 0) aNil)) (rC (.int 12))) : Env → M S Bool) [va A, none, none] s = .ok (decide (12 < ds.length)) s := by
    refine asT_of (bin_of (s1 := s) (s2 := s) (x := .int (ds.length : Int)) (y := .int 12) (call1_of (s1 := s) (x := A) (rVar_run rfl) (by rcases hA with rfl | rfl <;> rfl)) rfl ?_)
    show Res.ok (D.bl (decide ((ds.length : Int) > 12))) s = _
    have : decide ((ds.length : Int) > 12) = decide (12 < ds.length) := decide_eq_decide.mpr (by omega)
    rw [this]
  by_cases h : 12 < ds.length
  · rw [decide_eq_false (show ¬ ds.length ≤ 12 by omega), Bool.false_and]
    rw [decide_eq_true h] at q2
    refine runB_rt ?_
    show rd__law_are_dates cs [va A, none, none] s = _
    unfold rd__law_are_dates
    exact seq_ret (or_f q1 q2) rfl
  · rw [decide_eq_true (show ds.length ≤ 12 by omega), Bool.true_and]
    rw [decide_eq_false h] at q2
    obtain ⟨y1, y2, q⟩ := are_for (S := S) (s := s) (cs := cs) hA ds [] none none rfl (by simp) List.nodup_nil hp
    refine runB_rt ?_
    show rd__law_are_dates cs [va A, none, none] s = _
    unfold rd__law_are_dates
    refine seq_skip (or_f q1 q2) ?_
    have eF : (sFor (iEnm (aCons (rVar 0) aNil)) (gTp 2 (gsCons (gNm 1) (gsCons (gNm 2) gsNil))) (sIf (tAre cs) (sRet (rC (.bl false))) sNx) : Env → M S Flw) [va A, none, none] s = (if diffs 0 1000 ds = true then .ok (.nx [va A, y1, y2]) s else .ok (.rt (.bl false)) s) := for_of (s1 := s) (ds := enumL 0 ds) (by rcases hA with rfl | rfl <;> rfl) q
    cases hd : diffs 0 1000 ds with
    | true =>
      rw [hd, if_pos rfl] at eF
      exact seq_of eF rfl
    | false =>
      rw [hd, if_neg (by decide)] at eF
      rw [sSeq_run, eF]; rfl
theorem law_dates_no {A : D} (hp : plV A = true) (hs : isSeqD A = false) : (sem__law_are_dates cs [A] : M S D) s = .ok (.bl false) s := by
  refine runB_rt ?_
  show rd__law_are_dates cs [va A, none, none] s = _
  unfold rd__law_are_dates
  refine seq_ret (s1 := s) (or_t (not_of (b := false) (asT_of (isi_of1 (x := A) (s1 := s) (rVar_run rfl) ?_)))) rfl
  cases A with
  | lst _ => cases hs
  | tup _ => cases hs
  | bl _ => kernel_rfl
  | non => kernel_rfl
  | int _ => kernel_rfl
  | str _ => kernel_rfl
  | dct _ => kernel_rfl
  | _ => cases hp
end
end DL
set_option Elab.async false
set_option linter.all false
set_option maxRecDepth 100000
set_option maxHeartbeats 400000
set_option autoImplicit false
/-! a list shuffled -/
namespace DL
open PySem PySem.Spec PyProof.Rows L2 Rh
section
variable {S : Type} {s : S} {env : Env}
theorem neqD_lints {a b : List Int} : (eqD true (.lst (a.map .int)) (.lst (b.map .int)) : M S D) s = .ok (.bl (!(decide (a = b)))) s := by
  have e : eqP (.lst (a.map .int)) (.lst (b.map .int)) = some (decide (a = b)) := by
    have p : ∀ a : List Int, pd (.lst (a.map .int)) = some (.list (a.map PyData.int)) := fun a => by
      show (pdL (a.map .int)).map PyData.list = _
      rw [pdL_ints]; rfl
    unfold eqP
    rw [p, p]
    show (if _ then some _ else none) = _
    rw [if_pos ⟨shaped_ints a, shaped_ints b⟩]
    show some (PyData.eqvAll (a.map PyData.int) (b.map PyData.int)) = _
    rw [eqv_ints]
  unfold eqD; rw [e]; rfl
theorem erase_mapI (l : List Int) (k : Nat) : (l.map D.int).eraseIdx k = (l.eraseIdx k).map D.int := by
  rw [List.eraseIdx_eq_take_drop_succ, List.eraseIdx_eq_take_drop_succ, List.map_append, List.map_take, List.map_drop]
theorem erase_perm {α : Type} : ∀ (l : List α) (k : Nat) (h : k < l.length), l.Perm (l[k] :: l.eraseIdx k)
  | [], k, h => by simp at h
  | x :: l, 0, _ => List.Perm.refl _
  | x :: l, k + 1, h => by
    have ih := erase_perm l k (by simpa using h)
    simp only [List.getElem_cons_succ, List.eraseIdx_cons_succ]
    exact (ih.cons x).trans (List.Perm.swap _ _ _)
end
theorem shuffled_yes (cells : List Int) {ds : List Int} (hl : ds.length ≤ 1000) : Yes (sem__law_shuffled cells [.hnd 0, .lst (ds.map .int)]) fun d => ∃ es : List Int, d = .lst (es.map .int) ∧ es.Perm ds := by
  refine Yes.runB ?_
  show Yes (rd__law_shuffled cells [some (.val (.hnd 0)), some (.val (.lst (ds.map .int))), none, none]) _
  unfold rd__law_shuffled
  refine Yes.seq (I := fun e => e = [some (.val (.hnd 0)), some (.val (.lst (ds.map .int))), some (.own (ds.map .int)), some (.own (([] : List Int).map .int))]) (fun s => ⟨_, s, rfl, _, rfl, rfl⟩) ?_
  rintro _ rfl
  have loop : ∀ (n : Nat) (left found : List Int), left.length = n → left.length + found.length ≤ 1000 → (found ++ left).Perm ds → Yes (sWhl (vwT [2] (asT (bin (eqD true) (rVar 2) (lstD aNil)))) (sAppE 3 (popE 2 (cal (sem__law_take cells) [] 2 (aCons (rVar 0) (aCons (lenO 2) aNil))))) [some (.val (.hnd 0)), some (.val (.lst (ds.map .int))), some (.own (left.map .int)), some (.own (found.map .int))]) fun f => ∃ e, f = .nx e ∧ ∃ es : List Int, es.Perm ds ∧ e = [some (.val (.hnd 0)), some (.val (.lst (ds.map .int))), some (.own (([] : List Int).map .int)), some (.own (es.map .int))] := fun n => by
    induction n with
    | zero =>
      intro left found hn hle hp s
      obtain rfl : left = [] := List.length_eq_zero_iff.mp hn
      refine ⟨_, s, ?_, _, rfl, found, by rwa [List.append_nil] at hp, rfl⟩
      rw [sWhl_eq]
      have e1 : (vwT [2] (asT (bin (eqD true) (rVar 2) (lstD aNil))) : Env → M DrS Bool) [some (.val (.hnd 0)), some (.val (.lst (ds.map .int))), some (.own (([] : List Int).map .int)), some (.own (found.map .int))] s = .ok false s := by
        show (asT (bin (eqD true) (rVar 2) (lstD aNil)) : Env → M DrS Bool) [some (.val (.hnd 0)), some (.val (.lst (ds.map .int))), some (.val (.lst (([] : List Int).map .int))), some (.own (found.map .int))] s = _
        exact asT_of (bin_of (s1 := s) (s2 := s) (x := .lst (([] : List Int).map .int)) (y := .lst (([] : List Int).map .int)) rfl rfl (neqD_lints (a := []) (b := [])))
      show ((vwT [2] _ _ s).bind _) = _
      rw [e1]; rfl
    | succ n ih =>
      intro left found hn hle hp s
      have e1 : (vwT [2] (asT (bin (eqD true) (rVar 2) (lstD aNil))) : Env → M DrS Bool) [some (.val (.hnd 0)), some (.val (.lst (ds.map .int))), some (.own (left.map .int)), some (.own (found.map .int))] s = .ok true s := by
        show (asT (bin (eqD true) (rVar 2) (lstD aNil)) : Env → M DrS Bool) [some (.val (.hnd 0)), some (.val (.lst (ds.map .int))), some (.val (.lst (left.map .int))), some (.own (found.map .int))] s = _
        refine asT_of (bin_of (s1 := s) (s2 := s) (x := .lst (left.map .int)) (y := .lst (([] : List Int).map .int)) rfl rfl ?_)
        rw [neqD_lints]
        have : left ≠ [] := fun z => by rw [z] at hn; cases hn
        rw [decide_eq_false this]; rfl
      obtain ⟨_, s2, e2, k, rfl, k0, k1⟩ := take_in (cells := cells) (env := [some (.val (.hnd 0)), some (.val (.lst (ds.map .int))), some (.own (left.map .int)), some (.own (found.map .int))]) (i := 0) (τ := lenO 2) (many := (left.length : Int)) rfl (fun s => ⟨_, s, rfl, _, rfl, by rw [List.length_map]⟩) (by omega) (by omega) s
      have hk : k.toNat < left.length := by omega
      have hgk : (left.map D.int)[k.toNat]? = some (.int left[k.toNat]) := by rw [List.getElem?_map, List.getElem?_eq_getElem hk]; rfl
      have e3 : (sAppE 3 (popE 2 (cal (sem__law_take cells) [] 2 (aCons (rVar 0) (aCons (lenO 2) aNil)))) : Env → M DrS Flw) [some (.val (.hnd 0)), some (.val (.lst (ds.map .int))), some (.own (left.map .int)), some (.own (found.map .int))] s = .ok (.nx [some (.val (.hnd 0)), some (.val (.lst (ds.map .int))), some (.own ((left.eraseIdx k.toNat).map .int)), some (.own ((found ++ [left[k.toNat]]).map .int))]) s2 := by
        have e4 : (popE 2 (cal (sem__law_take cells) [] 2 (aCons (rVar 0) (aCons (lenO 2) aNil))) : Env → M DrS (D × Env)) [some (.val (.hnd 0)), some (.val (.lst (ds.map .int))), some (.own (left.map .int)), some (.own (found.map .int))] s = .ok (.int left[k.toNat], [some (.val (.hnd 0)), some (.val (.lst (ds.map .int))), some (.own ((left.eraseIdx k.toNat).map .int)), some (.own (found.map .int))]) s2 := by
          show ((cal (sem__law_take cells) [] 2 (aCons (rVar 0) (aCons (lenO 2) aNil)) _ s).bind _) = _
          rw [e2, Res.bind_ok]
          show (match (left.map D.int)[k.toNat]? with
            | some d => grd (0 ≤ k ∧ k < 2 ^ 62) (pure (d, _))
            | none => stk : M DrS (D × Env)) s2 = _
          rw [hgk]
          show (grd (0 ≤ k ∧ k < 2 ^ 62) (pure _) : M DrS (D × Env)) s2 = _
          rw [grd_pos ⟨k0, by omega⟩, erase_mapI]; rfl
        show ((popE 2 _ _ s).bind _) = _
        rw [e4, Res.bind_ok]
        show (grd ((found.map D.int).length < sizeLine) (pure _) : M DrS Flw) s2 = _
        rw [grd_pos (by rw [List.length_map]; have := sz6 (n := found.length + 1) (by omega); omega), List.map_append]; rfl
      have hp2 : (found ++ [left[k.toNat]] ++ left.eraseIdx k.toNat).Perm ds := by
        refine List.Perm.trans ?_ hp
        rw [List.append_assoc]
        exact (erase_perm left k.toNat hk).symm.append_left found
      have hl2 : (left.eraseIdx k.toNat).length = n := by rw [List.length_eraseIdx, if_pos hk]; omega
      obtain ⟨f, s3, e5, q⟩ := ih (left.eraseIdx k.toNat) (found ++ [left[k.toNat]]) hl2 (by rw [List.length_append, List.length_singleton]; omega) hp2 s2
      refine ⟨f, s3, ?_, q⟩
      rw [sWhl_eq]
      show ((vwT [2] _ _ s).bind _) = _
      rw [e1, Res.bind_ok]
      show ((sAppE 3 _ _ s).bind _) = _
      rw [e3]
      exact e5
  refine Yes.seq (loop ds.length ds [] rfl (by simp; omega) (List.Perm.refl _)) ?_
  rintro _ ⟨es, hp, rfl⟩
  refine Yes.mono (Yes.retO rfl) ?_
  rintro _ ⟨_, rfl, rfl⟩
  exact ⟨_, rfl, es, rfl, hp⟩
end DL
set_option Elab.async false
set_option linter.all false
set_option maxRecDepth 100000
set_option maxHeartbeats 400000
set_option autoImplicit false
/-! more of what ends well (from L43Law) -/
namespace DL
open PySem PySem.Spec PyProof.Rows L2 Rh
theorem Yes.calOf {S : Type} {env : Env} {sem : List D → M S D} {n : Nat} {l : Env → M S (List D)} {ds : List D} {Q : D → Prop} (h : ∀ s, l env s = .ok ds s) (hn : ds.length = n) (k : Yes (sem ds) Q) : Yes (DL.cal sem [] n l env) Q := Yes.cal (P := (· = ds)) (fun s => ⟨ds, s, h s, hn, rfl⟩) (by rintro _ rfl; exact k)
theorem Yes.iteY {S : Type} {env : Env} {t : Env → M S Bool} {τ υ : Env → M S D} {P : D → Prop} (h : Yes (t env) fun _ => True) (h1 : Yes (τ env) P) (h2 : Yes (υ env) P) : Yes (iteE t τ υ env) P := fun s => by
  obtain ⟨b, s1, e, _⟩ := h s
  cases b with
  | true =>
    obtain ⟨d, s2, e2, p⟩ := h1 s1
    exact ⟨d, s2, ite_t e e2, p⟩
  | false =>
    obtain ⟨d, s2, e2, p⟩ := h2 s1
    exact ⟨d, s2, ite_f e e2, p⟩
end DL
set_option Elab.async false
set_option linter.all false
set_option maxRecDepth 100000
set_option maxHeartbeats 1000000
set_option autoImplicit false
/-! lists are told apart by their texts -/
namespace DL
open PySem PySem.Spec PyProof.Rows L2 Rh TL
/-- the text of a number from 0 on -/
theorem tl_int {i : Int} (h : 0 ≤ i) : tl (PyData.shown (.int i)) = numL i.toNat := by
  obtain ⟨n, rfl⟩ := Int.eq_ofNat_of_zero_le h
  exact tl_num n
theorem int_ok {i : Int} (h : 0 ≤ i) : 44 ∉ tl (PyData.shown (.int i)) ∧ tl (PyData.shown (.int i)) ≠ [] := by
  rw [tl_int h]
  exact ⟨numL_free (.inl (by decide)), numL_ne _⟩
end DL
set_option Elab.async false
set_option linter.all false
set_option maxRecDepth 100000
set_option maxHeartbeats 1000000
set_option autoImplicit false
/-! k23: what is drawn (as in k26) -/
namespace DL
open PySem PySem.Spec PyProof.Rows L2 Rh
section
variable {S : Type} {s : S} {cs : List Str}
theorem dates_tup {ds : List D} (hk : ds.all (okD cs) = true) (hl : ds.length ≤ 4000) : (sem_are_dates cs [.tup ds] : M S D) s = .ok (.bl (decide (ds.length ≤ 12) && diffs 0 1000 ds)) s := by
  refine runB_rt ?_
  show rd_are_dates cs [va (.tup ds)] s = _
  unfold rd_are_dates
  refine ret_of ?_
  have e1 : (cal (sem_is_list cs) [] 1 (aCons (rVar 0) aNil) : Env → M S D) [va (.tup ds)] s = .ok (.bl true) s := cal1_of (x := .tup ds) (rVar_run rfl) (sem_isl (cs := cs) rfl)
  have e2 : (bin leD (bcl lenD (aCons (rVar 0) aNil)) (rC (.int 12)) : Env → M S D) [va (.tup ds)] s = .ok (.bl (decide (ds.length ≤ 12))) s := by
    refine bin_of (s1 := s) (s2 := s) (x := .int (ds.length : Int)) (y := .int 12) (call1_of (s1 := s) (x := .tup ds) (rVar_run rfl) rfl) rfl ?_
    show Res.ok (D.bl (decide ((ds.length : Int) ≤ 12))) s = _
    have : decide ((ds.length : Int) ≤ 12) = decide (ds.length ≤ 12) := by
      by_cases q : ds.length ≤ 12
      · rw [decide_eq_true q, decide_eq_true (by omega)]
      · rw [decide_eq_false q, decide_eq_false (by omega)]
    rw [this]
  have e3 : (cal (sem_are_different cs) [] 3 (aCons (rVar 0) (aCons (rC (.int 0)) (aCons (rC (.int 1000)) aNil))) : Env → M S D) [va (.tup ds)] s = .ok (.bl (diffs 0 1000 ds)) s := sem_dif (.inr rfl) hl hk
  rw [andV_run, e1, Res.bind_ok, truD_bl, Res.bind_ok, if_pos rfl, andV_run, e2, Res.bind_ok, truD_bl, Res.bind_ok]
  by_cases q : ds.length ≤ 12
  · rw [decide_eq_true q, if_pos rfl, e3, Bool.true_and]
  · rw [decide_eq_false q, if_neg (by decide), Bool.false_and]
/-! ### dates -/
structure DatV (cs : List Str) (B : D) (o : Option D) : Prop where
  ok : ∀ (S : Type) (s : S), (sem_are_dates cs [B] : M S D) s = .ok (.bl o.isNone) s
  law : ∀ (S : Type) (s : S), (sem__law_are_dates cs [B] : M S D) s = .ok (.bl o.isNone) s
  exc : o = none ∨ o = some xDat
  good : o = none → ∃ ds, Dts ds ∧ (B = .lst (ds.map .int) ∨ B = .tup (ds.map .int))
  shw : PlN B 4 4000
  tup : ∀ es, B = .lst es → ∀ (S : Type) (s : S), (sem_are_dates cs [.tup es] : M S D) s = .ok (.bl o.isNone) s
theorem DatV.needT {es : List D} {o : Option D} (h : DatV cs (.lst es) o) : (sem_need_datesX cs [.tup es] : M S D) s = resO o s := by
  rw [needdatesX_of (h.tup es rfl S s)]
  rcases h.exc with rfl | rfl <;> rfl
theorem DatV.need {B : D} {o : Option D} (h : DatV cs B o) : (sem_need_datesX cs [B] : M S D) s = resO o s := by
  rw [needdatesX_of (h.ok S s)]
  rcases h.exc with rfl | rfl <;> rfl
theorem dat_list {es : List D} (hp : ∀ d ∈ es, plV d = true) (hl : es.length ≤ 100) (hs : PlN (.lst es) 4 4000) : ∃ o, DatV cs (.lst es) o := by
  refine ⟨if (decide (es.length ≤ 12) && diffs 0 1000 es) = true then none else some xDat, fun S s => ?_, fun S s => ?_, ?_, fun h => ?_, hs, fun es2 e S s => ?_⟩
  rotate_right
  · cases e
    rw [dates_tup (List.all_eq_true.mpr fun d h => plV_ok (hp d h)) (by omega)]
    cases (decide (es.length ≤ 12) && diffs 0 1000 es) <;> rfl
  · rw [dates_seq (List.all_eq_true.mpr fun d h => plV_ok (hp d h)) (by omega)]
    cases (decide (es.length ≤ 12) && diffs 0 1000 es) <;> rfl
  · rw [law_dates (.inl rfl) hp (by omega)]
    cases (decide (es.length ≤ 12) && diffs 0 1000 es) <;> rfl
  · split
    · exact .inl rfl
    · exact .inr rfl
  · split at h
    · rename_i hb
      rw [Bool.and_eq_true, decide_eq_true_eq] at hb
      have hd : (es.all (numIn 0 1000) && (match intsD es with | some ns => decide ns.Nodup | none => false)) = true := hb.2
      rw [Bool.and_eq_true] at hd
      obtain ⟨ns, rfl⟩ := intsD_all hd.1
      refine ⟨ns, ⟨by have := hb.1; rw [List.length_map] at this; exact this, fun n hn => ?_, ?_⟩, .inl rfl⟩
      · have := List.all_eq_true.mp hd.1 (.int n) (List.mem_map.mpr ⟨n, hn, rfl⟩)
        have : (decide (0 ≤ n) && decide (n ≤ 1000)) = true := this
        rw [Bool.and_eq_true, decide_eq_true_eq, decide_eq_true_eq] at this
        exact this
      · have := hd.2
        rw [intsD_of] at this
        exact of_decide_eq_true this
    · cases h
theorem dat_no {B : D} {t : Str} (h : Shn B t) (hs : isSeqD B = false) : ∃ o, DatV cs B o :=
  ⟨some xDat, fun S s => dates_no (plV_ok h.pl) hs, fun S s => law_dates_no h.pl hs, .inr rfl, (fun z => nomatch z), h.nst.mono (by omega) (by omega), fun es e => by rw [e] at hs; cases hs⟩
theorem ints_pln {ds : List Int} (h : ∀ d ∈ ds, 0 ≤ d ∧ d ≤ 1000) (hl : ds.length ≤ 100) : PlNL (ds.map .int) 0 100 := by
  have := PlNL.all (a := 0) (w := 0) (ds := ds.map .int) fun d hd => by
    obtain ⟨n, hn, rfl⟩ := List.mem_map.mp hd
    have := h n hn
    exact PlN.int (by omega)
  exact this.mono (Nat.le_refl _) (by rw [List.length_map]; omega)
theorem dat_tup {ds : List Int} (hd : Dts ds) : ∃ o, DatV cs (.tup (ds.map .int)) o := by
  have hf := hd.few
  refine ⟨none, fun S s => are_dates_ok hd (.inr rfl), fun S s => ?_, .inl rfl, fun _ => ⟨ds, hd, .inr rfl⟩, (PlN.tup (ints_pln hd.lo (by omega))).mono (by omega) (by omega), fun es e => nomatch e⟩
  rw [law_dates (.inr rfl) (fun d h => by obtain ⟨n, _, rfl⟩ := List.mem_map.mp h; rfl) (by rw [List.length_map]; omega)]
  have : diffs 0 1000 (ds.map .int) = true := by
    unfold diffs
    rw [num_all ds hd.lo, intsD_of]
    exact decide_eq_true hd.nd
  rw [this, List.length_map, decide_eq_true hf]; rfl
end
section
variable {cs : List Str} {env : Env}
theorem Yes.tup23 {S : Type} {env : Env} {τ υ : Env → M S D} {i j : Nat} {P Q : D → Prop} (h : Yes (τ env) P) (k : Yes (υ env) Q) : Yes (sAsg (tupD (DL.aCons τ (DL.aCons υ DL.aNil))) (gTp 2 (gsCons (gNm i) (gsCons (gNm j) gsNil))) env) fun f => ∃ e, f = .nx e ∧ ∃ x y, P x ∧ Q y ∧ e = (env.set i (some (.val x))).set j (some (.val y)) := fun s => by
  obtain ⟨x, s1, e1, hx⟩ := h s
  obtain ⟨y, s2, e2, hy⟩ := k s1
  refine ⟨_, s2, ?_, _, rfl, x, y, hx, hy, rfl⟩
  rw [sAsg_run, tupD_of (aCons_of e1 (aCons_of e2 rfl)) (by simp)]; rfl
theorem Yes.seqRt {S : Type} {env : Env} {t : Env → M S Bool} {a b : Env → M S Flw} {P : D → Prop} (h : DetT t env true) (k : Yes (a env) fun f => ∃ d, f = .rt d ∧ P d) : Yes (sSeq (sIf t a sNx) b env) fun f => ∃ d, f = .rt d ∧ P d := fun s => by
  obtain ⟨_, s1, e, d, rfl, p⟩ := k s
  exact ⟨.rt d, s1, seq_ret (h s) e, d, rfl, p⟩
theorem Yes.ifNx {S : Type} {env : Env} {t : Env → M S Bool} {a : Env → M S Flw} {I : Env → Prop} (h : Yes (t env) fun _ => True) (k : Yes (a env) fun f => ∃ e, f = .nx e ∧ I e) (k0 : I env) : Yes (sIf t a sNx env) fun f => ∃ e, f = .nx e ∧ I e := fun s => by
  obtain ⟨b, s1, e, -⟩ := h s
  cases b with
  | true =>
    obtain ⟨f, s2, e2, p⟩ := k s1
    exact ⟨f, s2, if_t e e2, p⟩
  | false => exact ⟨_, s1, if_f e rfl, env, rfl, k0⟩
theorem take_test {cells : List Int} {i : Nat} {m : Int} (hi : env[i]? = some (va (.hnd 0))) (hm : 0 < m ∧ m < 1000) : Yes (asT (bin (eqD false) (cal (sem__law_take cells) [] 2 (aCons (rVar i) (aCons (rC (.int m)) aNil))) (rC (.int 0))) env) fun _ => True := fun s => by
  obtain ⟨_, s1, e, v, rfl, hv⟩ := take_in (cells := cells) (env := env) (i := i) (τ := rC (.int m)) (many := m) hi (IntE.c rfl) hm.1 (by omega) s
  exact ⟨_, s1, asT_of (bin_of e rfl eqD_int), trivial⟩
/-! ### dates -/
theorem nub_len : ∀ l : List Int, (nubI l).length ≤ l.length
  | [] => Nat.le_refl _
  | x :: l => by
    have := nub_len l
    unfold nubI
    split
    · rw [List.length_cons]; omega
    · rw [List.length_cons, List.length_cons]; omega
theorem ints_of : ∀ {l : List D} {P : Int → Prop}, (∀ d ∈ l, ∃ n : Int, d = .int n ∧ P n) → ∃ ns : List Int, l = ns.map .int ∧ ∀ n ∈ ns, P n
  | [], _, _ => ⟨[], rfl, by simp⟩
  | d :: l, P, h => by
    obtain ⟨n, rfl, hn⟩ := h d List.mem_cons_self
    obtain ⟨ns, rfl, hns⟩ := ints_of fun y hy => h y (List.mem_cons_of_mem _ hy)
    exact ⟨n :: ns, rfl, fun m hm => by
      rcases List.mem_cons.mp hm with rfl | hm
      · exact hn
      · exact hns m hm⟩
theorem datesX_yes (cells : List Int) : Yes (sem__law_datesX cells [.hnd 0, .int 12]) fun d => ∃ ds : List Int, Dts ds ∧ d = .lst (ds.map .int) := by
  refine Yes.runB ?_
  show Yes (rd__law_datesX cells [va (.hnd 0), va (.int 12), none, none, none]) _
  unfold rd__law_datesX
  refine Yes.seq (Yes.set (pick_list (ds := ([12, 40, 40, 120, 1001] : List Int).map .int) rfl (fun s => ⟨_, s, by kernel_rfl, rfl⟩) (by decide) (by decide))) ?_
  rintro _ ⟨_, hw, rfl⟩
  obtain ⟨w, hwm, rfl⟩ := List.mem_map.mp hw
  have hw2 : 12 ≤ w ∧ w ≤ 1001 := by
    simp only [List.mem_cons, List.not_mem_nil, or_false] at hwm
    omega
  show Yes (sSeq _ _ [va (.hnd 0), va (.int 12), va (.int w), none, none]) _
  refine Yes.seq (Yes.set (P := fun d => ∃ ns : List Int, d = .lst (ns.map .int) ∧ ns.length ≤ 12 ∧ ∀ n ∈ ns, 0 ≤ n ∧ n ≤ 1000) ?_) ?_
  · intro s
    obtain ⟨_, s1, e, v, rfl, hv⟩ := take_in (cells := cells) (env := [va (.hnd 0), va (.int 12), va (.int w), none, none]) (i := 0) (τ := bin addD (rVar 1) (rC (.int 1))) (many := 13) rfl (IntE.add (P := (· = 12)) (Q := (· = 1)) (IntE.var rfl rfl) (IntE.c rfl) (by rintro i j rfl rfl; rfl)) (by decide) (by decide) s
    have ei : (iR1 (aCons (cal (sem__law_take cells) [] 2 (aCons (rVar 0) (aCons (bin addD (rVar 1) (rC (.int 1))) aNil))) aNil) : Env → M DrS (List D)) [va (.hnd 0), va (.int 12), va (.int w), none, none] s = .ok (rngD 0 v) s1 := by
      rw [iR1_run, aCons_run, e]
      simp only [Res.bind_ok, aNil_run]
      rw [if_pos (show -(2 ^ 62) ≤ v ∧ v < 2 ^ 62 by omega)]
    have hl : (rngD 0 v).length ≤ 12 := by rw [rngD_eq, List.length_map, rngI_length]; omega
    obtain ⟨ys, s2, e2, hy1, hy2⟩ := Yes.list (γ := gNm 4) (e := cal (sem__law_take cells) [] 2 (aCons (rVar 0) (aCons (rVar 2) aNil))) (env := [va (.hnd 0), va (.int 12), va (.int w), none, none]) (fun d => ∃ n : Int, d = .int n ∧ (0 ≤ n ∧ n ≤ 1000)) (xs := rngD 0 v) (fun x hx => Yes.mono (Yes.of fun s => gNm_run) (by
      rintro _ rfl
      exact Yes.mono (take_in (many := w) rfl (IntE.var rfl rfl) (by omega) (by omega)) (by rintro _ ⟨u, rfl, a, b⟩; exact ⟨u, rfl, by omega, by omega⟩))) s1
    obtain ⟨ns, rfl, hns⟩ := ints_of hy2
    exact ⟨_, s2, cmp_of ei (sz6 (by omega)) e2, ns, rfl, by rw [List.length_map] at hy1; omega, hns⟩
  rintro _ ⟨_, ⟨ns, rfl, hl, hb⟩, rfl⟩
  show Yes (sRet _ [va (.hnd 0), va (.int 12), va (.int w), va (.lst (ns.map .int)), none]) _
  refine Yes.ret ?_
  have hs : (srt (nubI ns)).length ≤ 12 := by rw [(srt_perm _).length_eq]; have := nub_len ns; omega
  refine Yes.mono (Yes.calOf (ds := [.hnd 0, .lst ((srt (nubI ns)).map .int)]) (fun s => aCons_of (d := .hnd 0) (s1 := s) (rVar_run rfl) (aCons_of (d := .lst ((srt (nubI ns)).map .int)) (s1 := s) ?_ rfl)) rfl (shuffled_yes cells (by omega))) ?_
  · have q : (sortSetI (.lst (ns.map .int)) : M DrS D) s = .ok (.lst ((srt (nubI ns)).map .int)) s := by
      show (match intsD (ns.map .int) with
        | some ns => grd (ns.length < 4000) (pure (.lst ((srt (nubI ns)).map D.int)))
        | none => stk : M DrS D) s = _
      rw [intsD_of]
      show (grd (ns.length < 4000) (pure (.lst ((srt (nubI ns)).map D.int))) : M DrS D) s = _
      rw [grd_pos (by omega)]; rfl
    exact q
  · rintro _ ⟨es, rfl, hp⟩
    refine ⟨es, ⟨by rw [hp.length_eq]; exact hs, fun d hd => ?_, ?_⟩, rfl⟩
    · exact hb d (nub_mem.mp ((srt_perm _).mem_iff.mp (hp.mem_iff.mp hd)))
    · exact hp.nodup_iff.mpr ((srt_perm _).nodup_iff.mpr (nub_nodup ns))
end
section
variable {cs : List Str} {env : Env}
abbrev oddB : List D := [.non, .bl true, .int (-1), .int 1001, .str "1", .tup [.int 0], .lst [.int 1], .int (10 ^ 20), .dct [], .int 0, .int 1000]
theorem oddB_shn : ∀ d ∈ oddB, ∃ t, Shn d t := by
  simp only [oddB, List.forall_mem_cons, List.not_mem_nil, false_implies, implies_true, and_true]
  refine ⟨⟨_, shn_of rfl rfl rfl ?_ ?_ ?_ ?_ ?_ ?_⟩, ⟨_, shn_of rfl rfl rfl ?_ ?_ ?_ ?_ ?_ ?_⟩, ⟨_, shn_int (by decide)⟩, ⟨_, shn_int (by decide)⟩, ⟨_, shn_of rfl rfl rfl ?_ ?_ ?_ ?_ ?_ ?_⟩, ⟨_, shn_of rfl rfl rfl ?_ ?_ ?_ ?_ ?_ ?_⟩, ⟨_, shn_of rfl rfl rfl ?_ ?_ ?_ ?_ ?_ ?_⟩, ⟨_, shn_int (by decide)⟩, ⟨_, shn_of rfl rfl rfl ?_ ?_ ?_ ?_ ?_ ?_⟩, ⟨_, shn_int (by decide)⟩, ⟨_, shn_int (by decide)⟩⟩ <;> decide +kernel
theorem mixed_dat {ds es : List Int} {m : List D} (hd : ∀ d ∈ ds, 0 ≤ d ∧ d ≤ 1000) (he : ∀ d ∈ es, 0 ≤ d ∧ d ≤ 1000) (hm : ∀ d ∈ m, ∃ t, Shn d t) (hl : ds.length + m.length + es.length ≤ 30) : ∃ o, DatV cs (.lst (ds.map .int ++ m ++ es.map .int)) o := by
  refine dat_list (fun d h => ?_) (by simp only [List.length_append, List.length_map]; omega) ((PlN.lst (a := 2) (PlNL.all (w := 100) fun d h => ?_)).mono (by omega) (by simp only [List.length_append, List.length_map]; omega))
  · rcases List.mem_append.mp h with h | h
    · rcases List.mem_append.mp h with h | h
      · obtain ⟨n, _, rfl⟩ := List.mem_map.mp h; rfl
      · obtain ⟨t, ht⟩ := hm d h; exact ht.pl
    · obtain ⟨n, _, rfl⟩ := List.mem_map.mp h; rfl
  · rcases List.mem_append.mp h with h | h
    · rcases List.mem_append.mp h with h | h
      · obtain ⟨n, hn, rfl⟩ := List.mem_map.mp h
        have := hd n hn
        exact (PlN.int (by omega)).mono (by omega) (by omega)
      · obtain ⟨t, ht⟩ := hm d h; exact ht.nst
    · obtain ⟨n, hn, rfl⟩ := List.mem_map.mp h
      have := he n hn
      exact (PlN.int (by omega)).mono (by omega) (by omega)
theorem bent_yes (cells : List Int) {ds : List Int} (hd : Dts ds) : Yes (sem__law_bent_dates cells [.hnd 0, .lst (ds.map .int)]) fun B => ∃ o, DatV cs B o := by
  have hf := hd.few
  have tk : ∀ k : Nat, (ds.take k).length ≤ 12 ∧ ∀ d ∈ ds.take k, 0 ≤ d ∧ d ≤ 1000 := fun k => ⟨by rw [List.length_take]; omega, fun d h => hd.lo d (List.mem_of_mem_take h)⟩
  have dr : ∀ k : Nat, (ds.drop k).length ≤ 12 ∧ ∀ d ∈ ds.drop k, 0 ≤ d ∧ d ≤ 1000 := fun k => ⟨by rw [List.length_drop]; omega, fun d h => hd.lo d (List.mem_of_mem_drop h)⟩
  refine Yes.runB ?_
  show Yes (rd__law_bent_dates cells [va (.hnd 0), va (.lst (ds.map .int)), none, none, none]) _
  unfold rd__law_bent_dates
  refine Yes.seq (Yes.set (pick_list (ds := oddB) rfl (fun s => ⟨_, s, by kernel_rfl, rfl⟩) (by decide) (by decide))) ?_
  rintro _ ⟨u, hu, rfl⟩
  have hus := oddB_shn u hu
  show Yes (sSeq _ _ [va (.hnd 0), va (.lst (ds.map .int)), va u, none, none]) _
  refine Yes.seq (Yes.par (take_in (many := (ds.length : Int) + 1) rfl (IntE.add (P := (· = (ds.length : Int))) (Q := (· = 1)) (fun s => ⟨.int (ds.length : Int), s, call1_of (s1 := s) (x := .lst (ds.map .int)) (rVar_run rfl) (by
      show Res.ok (D.int ((ds.map D.int).length : Int)) s = _
      rw [List.length_map]), _, rfl, rfl⟩) (IntE.c rfl) (by rintro i j rfl rfl; rfl)) (by omega) (by omega)) (take_in (many := 5) rfl (IntE.c rfl) (by decide) (by decide))) ?_
  rintro _ ⟨_, _, ⟨at_, rfl, ha⟩, ⟨way, rfl, hw⟩, rfl⟩
  obtain ⟨k, rfl⟩ := Int.eq_ofNat_of_zero_le ha.1
  show Yes (sSeq _ _ [va (.hnd 0), va (.lst (ds.map .int)), va u, va (.int (k : Int)), va (.int way)]) _
  have t0 : DetT (S := DrS) (asT (bin (eqD false) (rVar 4) (rC (.int 0)))) [va (.hnd 0), va (.lst (ds.map .int)), va u, va (.int (k : Int)), va (.int way)] (decide (way = 0)) := DetT.eqI (Det.var rfl) Det.c
  have t1 : DetT (S := DrS) (asT (bin (eqD false) (rVar 4) (rC (.int 1)))) [va (.hnd 0), va (.lst (ds.map .int)), va u, va (.int (k : Int)), va (.int way)] (decide (way = 1)) := DetT.eqI (Det.var rfl) Det.c
  have sTo : Det (S := DrS) (slcD (rVar 1) oNone (oSome (rVar 3))) [va (.hnd 0), va (.lst (ds.map .int)), va u, va (.int (k : Int)), va (.int way)] (.lst ((ds.map .int).take k)) := Det.slcTo (Det.var rfl) (Det.var rfl)
  have sFr : Det (S := DrS) (slcD (rVar 1) (oSome (rVar 3)) oNone) [va (.hnd 0), va (.lst (ds.map .int)), va u, va (.int (k : Int)), va (.int way)] (.lst ((ds.map .int).drop k)) := Det.slcFrom (Det.var rfl) (Det.var rfl)
  have hml : (ds.map D.int).length ≤ 12 := by rw [List.length_map]; exact hf
  by_cases w0 : way = 0
  · rw [decide_eq_true w0] at t0
    refine Yes.seqRt t0 (Yes.ret (Yes.mono (pick_list (ds := [.non, .int 5, .str "dates", .dct [], .dct [(.inl 0, .int 1)], .bl true, .lst (rngD 0 13), .tup (ds.map .int)]) rfl (fun s => ⟨_, s, by kernel_rfl, rfl⟩) (Nat.succ_pos _) (by simp only [List.length_cons, List.length_nil]; omega)) ?_))
    have h1 : ∃ o, DatV cs .non o := dat_no (shn_of rfl rfl rfl (by decide +kernel) (by decide +kernel) (by decide +kernel) (by decide +kernel) (by decide +kernel) (by decide +kernel)) rfl
    have h2 : ∃ o, DatV cs (.int 5) o := dat_no (shn_int (by decide)) rfl
    have h3 : ∃ o, DatV cs (.str "dates") o := dat_no (shn_of rfl rfl rfl (by decide +kernel) (by decide +kernel) (by decide +kernel) (by decide +kernel) (by decide +kernel) (by decide +kernel)) rfl
    have h4 : ∃ o, DatV cs (.dct []) o := dat_no (shn_of rfl rfl rfl (by decide +kernel) (by decide +kernel) (by decide +kernel) (by decide +kernel) (by decide +kernel) (by decide +kernel)) rfl
    have h5 : ∃ o, DatV cs (.dct [(.inl 0, .int 1)]) o := dat_no (shn_of rfl rfl rfl (by decide +kernel) (by decide +kernel) (by decide +kernel) (by decide +kernel) (by decide +kernel) (by decide +kernel)) rfl
    have h6 : ∃ o, DatV cs (.bl true) o := dat_no (shn_of rfl rfl rfl (by decide +kernel) (by decide +kernel) (by decide +kernel) (by decide +kernel) (by decide +kernel) (by decide +kernel)) rfl
    have h7 : ∃ o, DatV cs (.lst (rngD 0 13)) o := by
      rw [rngD_eq]
      have := mixed_dat (cs := cs) (ds := rngI 0 13) (es := []) (m := []) (fun d h => by have := mem_rngI.mp h; omega) (by simp) (by simp) (by decide)
      simpa using this
    have h8 : ∃ o, DatV cs (.tup (ds.map .int)) o := dat_tup hd
    simp only [List.forall_mem_cons, List.not_mem_nil, false_implies, implies_true, and_true]
    exact ⟨h1, h2, h3, h4, h5, h6, h7, h8⟩
  rw [decide_eq_false w0] at t0
  refine Yes.seqSkip t0 ?_
  by_cases w1 : way = 1
  · rw [decide_eq_true w1] at t1
    refine Yes.seqRt t1 (Yes.ret ?_)
    have s1 : Det (S := DrS) (slcD (rVar 1) oNone (oSome (rC (.int 1)))) [va (.hnd 0), va (.lst (ds.map .int)), va u, va (.int (k : Int)), va (.int way)] (.lst ((ds.map .int).take 1)) := Det.slcTo (k := 1) (Det.var rfl) Det.c
    refine Yes.mono (Yes.det (Det.add_lst (Det.add_lst sTo s1 (by simp only [List.length_take]; omega)) sFr (by simp only [List.length_append, List.length_take, List.length_drop]; omega))) ?_
    rintro _ rfl
    have := mixed_dat (cs := cs) (ds := ds.take k) (es := ds.drop k) (m := (ds.take 1).map .int) (tk k).2 (dr k).2 (fun d h => by
      obtain ⟨n, hn, rfl⟩ := List.mem_map.mp h
      have := (tk 1).2 n hn
      exact ⟨_, shn_int (by omega)⟩) (by rw [List.length_map]; have := (tk k).1; have := (dr k).1; have h3 : (ds.take 1).length ≤ 1 := by rw [List.length_take]; omega
                                         omega)
    rw [List.map_take, List.map_drop, List.map_take] at this
    exact this
  rw [decide_eq_false w1] at t1
  refine Yes.seqSkip t1 (Yes.ret ?_)
  have so : Det (S := DrS) (lstD (aCons (rVar 2) aNil)) [va (.hnd 0), va (.lst (ds.map .int)), va u, va (.int (k : Int)), va (.int way)] (.lst [u]) := lstD_det (aCons_det (Det.var rfl) aNil_det)
  refine Yes.mono (Yes.det (Det.add_lst (Det.add_lst sTo so (by simp only [List.length_take, List.length_singleton]; omega)) sFr (by simp only [List.length_append, List.length_take, List.length_drop, List.length_singleton]; omega))) ?_
  rintro _ rfl
  have := mixed_dat (cs := cs) (ds := ds.take k) (es := ds.drop k) (m := [u]) (tk k).2 (dr k).2 (fun d h => by
    cases List.mem_singleton.mp h
    exact hus) (by rw [List.length_singleton]; have := (tk k).1; have := (dr k).1; omega)
  rw [List.map_take, List.map_drop] at this
  exact this
theorem odd_yes (cells : List Int) : Yes (sem__law_odd cells [.hnd 0]) (· ∈ oddS) := by
  refine Yes.runB (Yes.ret ?_)
  exact pick_list (env := [va (.hnd 0)]) (ds := oddS) rfl (fun s => ⟨_, s, by kernel_rfl, rfl⟩) (by decide) (by decide)
end
end DL
set_option Elab.async false
set_option linter.all false
set_option maxRecDepth 100000
set_option maxHeartbeats 1000000
set_option autoImplicit false
/-! k23: the outcomes, as the program and the law tell them -/
namespace DL
open PySem PySem.Spec PyProof.Rows L2 Rh
def wantD (ds : List Int) : D → Bool
  | .int n => decide (n ∈ ds)
  | _ => false
def intF (f : Int → Bool) : D → Bool
  | .int n => f n
  | _ => false
section
variable {S : Type} {s : S} {env : Env} {cs : List Str} {ys : List Stp}
theorem num_run {N : D} {k : Nat} {u : Env → M S Bool} {f : Int → Bool} (hp : plV N = true) (hi : env[k]? = some (va N)) (hf : ∀ n, N = .int n → u env s = .ok (!f n) s) : (orT (notT (asT (cal (sem_is_number cs) [] 1 (aCons (rVar k) aNil)))) u : Env → M S Bool) env s = .ok (!intF f N) s := by
  have e := not_of (asT_of (cal1_of (env := env) (τ := rVar k) (sem := sem_is_number cs) (x := N) (s := s) (rVar_run hi) (sem_num (plV_ok hp))))
  cases N with
  | int n => exact or_f e (hf n rfl)
  | bl b => exact or_t e
  | non => exact or_t e
  | str x => exact or_t e
  | lst x => exact or_t e
  | tup x => exact or_t e
  | dct x => exact or_t e
  | _ => cases hp
theorem drop1 {sem : List D → M S D} {k : Nat} {d : D} {o : Option D} (hi : env[k]? = some (va d)) (h : sem [d] s = resO o s) : (sDrop (cal sem [] 1 (aCons (rVar k) aNil)) : Env → M S Flw) env s = resF o env s := drop_res (by rw [cal_run, aCons_of (d := d) (s1 := s) (rVar_run hi) rfl]; exact h)
theorem lst_run {B : D} {ds : List Int} {k : Nat} (hB : B = .lst (ds.map .int) ∨ B = .tup (ds.map .int)) (hi : env[k]? = some (va B)) : (bcl listD (aCons (rVar k) aNil) : Env → M S D) env s = .ok (.lst (ds.map .int)) s := call1_of (x := B) (s1 := s) (rVar_run hi) (by rcases hB with rfl | rfl <;> rfl)
theorem needdate_run {B Y : D} {ds : List Int} (hB : B = .lst (ds.map .int) ∨ B = .tup (ds.map .int)) (hp : plV Y = true) : (sem_need_dateX cs [B, Y] : M S D) s = resO (if wantD ds Y = true then none else some (xDate Y)) s := by
  have eN : (orT (notT (asT (cal (sem_is_number cs) [] 1 (aCons (rVar 1) aNil)))) (asT (bin (inD true) (rVar 1) (rVar 0))) : Env → M S Bool) [va B, va Y] s = .ok (!wantD ds Y) s := by
    have : wantD ds Y = intF (fun n => decide (n ∈ ds)) Y := by cases Y <;> rfl
    rw [this]
    refine num_run (f := fun n => decide (n ∈ ds)) (u := asT (bin (inD true) (rVar 1) (rVar 0))) hp rfl fun n e => ?_
    subst e
    refine asT_of (bin_of (s1 := s) (s2 := s) (x := .int n) (y := B) (rVar_run rfl) (rVar_run rfl) ?_)
    rcases hB with rfl | rfl
    · exact inL_of
    · exact inL_of
  cases hw : wantD ds Y with
  | true =>
    rw [hw] at eN
    refine runB_nx (e := [va B, va Y]) ?_
    show rd_need_dateX cs [va B, va Y] s = _
    unfold rd_need_dateX
    exact if_f eN rfl
  | false =>
    rw [hw] at eN
    refine runB_err ?_
    show rd_need_dateX cs [va B, va Y] s = _
    unfold rd_need_dateX
    exact if_t eN rfl
/-! ### keys -/
def minV : List Int → Int
  | [] => 0
  | n :: ns => minL n ns
def keyV (k : Str) (ds : List Int) (d : Int) : Int := if k = "date" then d else if k = "number" then ((ds.filter fun x => decide (x < d)).length : Int) else if k = "age" then d - minV ds else ((ds.filter fun x => decide (d < x)).length : Int)
theorem keyV_bd {dates : List Int} (hd : Dts dates) {kind : Str} {date : Int} (hm : date ∈ dates) : 0 ≤ keyV kind dates date ∧ keyV kind dates date ≤ 1000 := by
  have hf := hd.few
  have hb := hd.lo date hm
  have hfl : ∀ p : Int → Bool, (dates.filter p).length ≤ 12 := fun p => Nat.le_trans (List.length_filter_le _ _) hf
  unfold keyV
  split
  · exact hb
  · split
    · have := hfl fun x => decide (x < date); omega
    · split
      · obtain ⟨n, ns, rfl⟩ : ∃ n ns, dates = n :: ns := by
          cases dates with
          | nil => cases hm
          | cons n ns => exact ⟨n, ns, rfl⟩
        obtain ⟨m1, m2, m3⟩ := minL_ok ns n
        have hle : minL n ns ≤ date := by
          rcases List.mem_cons.mp hm with rfl | hm
          · exact m1
          · exact m2 _ hm
        have hge : 0 ≤ minL n ns := by
          rcases m3 with e | e
          · rw [e]; exact (hd.lo n List.mem_cons_self).1
          · exact (hd.lo _ (List.mem_cons_of_mem _ e)).1
        show 0 ≤ date - minL n ns ∧ date - minL n ns ≤ 1000
        omega
      · have := hfl fun x => decide (date < x); omega
theorem min_run {dates : List Int} {date : Int} (hm : date ∈ dates) : (minD [.lst (dates.map .int)] : M S D) s = .ok (.int (minV dates)) s := by
  cases dates with
  | nil => cases hm
  | cons n ns =>
    show (match intsD ((n :: ns).map .int) with
      | some (n :: ns) => pure (.int (minL n ns))
      | _ => stk : M S D) s = _
    rw [intsD_of]; rfl
theorem keyP_ok {dates : List Int} (hd : Dts dates) {kind : Str} (hk : kind ∈ kindsKy) {date : Int} (hm : date ∈ dates) : (sem_key_by [.str kind, .lst (dates.map .int), .int date] : M S D) s = .ok (.int (keyV kind dates date)) s := by
  have hf := hd.few
  have t1 := kind_run (S := S) (s := s) (env := [va (.str kind), va (.lst (dates.map .int)), va (.int date), none]) (k := 0) hk rfl "date" (by simp)
  have t2 := kind_run (S := S) (s := s) (env := [va (.str kind), va (.lst (dates.map .int)), va (.int date), none]) (k := 0) hk rfl "number" (by simp)
  have t3 := kind_run (S := S) (s := s) (env := [va (.str kind), va (.lst (dates.map .int)), va (.int date), none]) (k := 0) hk rfl "age" (by simp)
  refine runB_rt ?_
  show rd_key_by [va (.str kind), va (.lst (dates.map .int)), va (.int date), none] s = _
  unfold rd_key_by keyV
  by_cases k1 : kind = "date"
  · rw [decide_eq_true k1] at t1
    rw [if_pos k1]
    exact seq_ret t1 rfl
  rw [decide_eq_false k1] at t1
  rw [if_neg k1]
  by_cases k2 : kind = "number"
  · rw [decide_eq_true k2] at t2
    rw [if_pos k2]
    exact seq_skip t1 (seq_ret t2 (ret_of (some_run hf fun x => DetT.lt (Det.var rfl) (Det.var rfl) s)))
  rw [decide_eq_false k2] at t2
  rw [if_neg k2]
  by_cases k3 : kind = "age"
  · rw [decide_eq_true k3] at t3
    rw [if_pos k3]
    exact seq_skip t1 (seq_skip t2 (ret_of (ite_t t3 (bin_of (s1 := s) (s2 := s) (x := .int date) (y := .int (minV dates)) (rVar_run rfl) (call1_of (s1 := s) (x := .lst (dates.map .int)) (rVar_run rfl) (min_run hm)) rfl))))
  rw [decide_eq_false k3] at t3
  rw [if_neg k3]
  exact seq_skip t1 (seq_skip t2 (ret_of (ite_f t3 (some_run hf fun x => by
    refine DetT.as (Det.bin (x := .int x) (y := .int date) (Det.var rfl) (Det.var rfl) fun s => ?_) s
    rfl))))
theorem keyL_ok {dates : List Int} (hd : Dts dates) {kind : Str} (hk : kind ∈ kindsKy) {date : Int} (hm : date ∈ dates) {B : D} (hB : B = .lst (dates.map .int) ∨ B = .tup (dates.map .int)) : (sem__law_key [.str kind, B, .int date] : M S D) s = .ok (.int (keyV kind dates date)) s := by
  have hf := hd.few
  have t1 := kind_run (S := S) (s := s) (env := [va (.str kind), va B, va (.int date), none]) (k := 0) hk rfl "date" (by simp)
  have t3 := kind_run (S := S) (s := s) (env := [va (.str kind), va B, va (.int date), none]) (k := 0) hk rfl "age" (by simp)
  have t2 := fun x : Int => kind_run (S := S) (s := s) (env := [va (.str kind), va B, va (.int date), va (.int x)]) (k := 0) hk rfl "number" (by simp)
  have cnt : ∀ p : Int → Bool, (∀ x : Int, (iteT (asT (bin (eqD false) (rVar 0) (rC (.str "number")))) (asT (bin ltD (rVar 3) (rVar 2))) (asT (bin gtD (rVar 3) (rVar 2))) : Env → M S Bool) [va (.str kind), va B, va (.int date), va (.int x)] s = .ok (p x) s) →
      (bcl lenD (aCons (cmp [3] (iSq (rVar 1)) (gNm 3) (iteT (asT (bin (eqD false) (rVar 0) (rC (.str "number")))) (asT (bin ltD (rVar 3) (rVar 2))) (asT (bin gtD (rVar 3) (rVar 2)))) (rVar 3)) aNil) : Env → M S D) [va (.str kind), va B, va (.int date), none] s = .ok (.int ((dates.filter p).length : Int)) s := fun p h => by
    have eI : (iSq (rVar 1) : Env → M S (List D)) [va (.str kind), va B, va (.int date), none] s = .ok (dates.map .int) s := by rcases hB with rfl | rfl <;> rfl
    refine call1_of (s1 := s) (x := .lst ((dates.filter p).map .int)) (cmp_of eI (by rw [List.length_map]; exact sz6 (by omega)) ?_) ?_
    · exact cmpL_G D.int (fun x => [va (.str kind), va B, va (.int date), va (.int x)]) p D.int (fun x _ => rfl) (fun x _ => h x) fun x _ _ => rfl
    · show Res.ok (D.int (((dates.filter p).map D.int).length : Int)) s = _
      rw [List.length_map]
  have lt := fun x : Int => DetT.lt (S := S) (env := [va (.str kind), va B, va (.int date), va (.int x)]) (τ := rVar 3) (υ := rVar 2) (i := x) (j := date) (Det.var rfl) (Det.var rfl) s
  refine runB_rt ?_
  show rd__law_key [va (.str kind), va B, va (.int date), none] s = _
  unfold rd__law_key keyV
  by_cases k1 : kind = "date"
  · rw [decide_eq_true k1] at t1
    rw [if_pos k1]
    exact seq_ret t1 rfl
  rw [decide_eq_false k1] at t1
  rw [if_neg k1]
  by_cases k2 : kind = "number"
  · have k3 : kind ≠ "age" := by rw [k2]; decide +kernel
    rw [decide_eq_false k3] at t3
    rw [if_pos k2]
    refine seq_skip t1 (seq_skip t3 (ret_of (cnt _ fun x => ?_)))
    show ((asT (bin (eqD false) (rVar 0) (rC (.str "number"))) : Env → M S Bool) _ s).bind _ = _
    rw [t2 x, decide_eq_true k2]
    exact lt x
  rw [if_neg k2]
  by_cases k3 : kind = "age"
  · rw [decide_eq_true k3] at t3
    rw [if_pos k3]
    exact seq_skip t1 (seq_ret t3 (ret_of (bin_of (s1 := s) (s2 := s) (x := .int date) (y := .int (minV dates)) (rVar_run rfl) (call1_of (s1 := s) (x := .lst (dates.map .int)) (lst_run hB rfl) (min_run hm)) rfl)))
  rw [decide_eq_false k3] at t3
  rw [if_neg k3]
  refine seq_skip t1 (seq_skip t3 (ret_of (cnt _ fun x => ?_)))
  show ((asT (bin (eqD false) (rVar 0) (rC (.str "number"))) : Env → M S Bool) _ s).bind _ = _
  rw [t2 x, decide_eq_false k2]
  exact asT_of (bin_of (s1 := s) (s2 := s) (x := .int x) (y := .int date) rfl rfl rfl)
/-! ### outcomes -/
inductive Oc where
  | key (n : Int) | kind (K : D) (t : Str) | dat | date (Y : D) (t : Str)
def Oc.due : Oc → D
  | .key n => .tup [.str "key", .str (shT n)]
  | .kind _ t => .tup [.str "kind", .str t]
  | .dat => .tup [.str "dates", .str ""]
  | .date _ t => .tup [.str "date", .str t]
def Oc.res (o : Oc) (s : S) : Res S D := match o with
  | .key n => .ok (.int n) s
  | .kind K _ => .err (xKind K) s
  | .dat => .err xDat s
  | .date Y _ => .err (xDate Y) s
def Oc.Ok : Oc → Prop
  | .key n => n.natAbs < 10 ^ 30
  | .kind K t => Shn K t
  | .dat => True
  | .date Y t => Shn Y t
theorem eq_two {a b : Str} (ha : PyData.strOk a = true) (hb : PyData.strOk b = true) {neg : Bool} : (eqD neg (.tup [.str a, .str b]) (.tup [.str a, .str b]) : M S D) s = .ok (.bl (!neg)) s := by
  have hs : SeqAt.shaped (.tuple [.str a, .str b]) = true := by
    simp [SeqAt.shaped, PyData.canLay0, PyData.canLayAll0, ha, hb, PyData.depth, PyData.depthAll]
  have e : eqP (.tup [.str a, .str b]) (.tup [.str a, .str b]) = some (PyData.eqv (.tuple [.str a, .str b]) (.tuple [.str a, .str b])) := by
    show (if SeqAt.shaped (.tuple [.str a, .str b]) = true ∧ SeqAt.shaped (.tuple [.str a, .str b]) = true then some (PyData.eqv (.tuple [.str a, .str b]) (.tuple [.str a, .str b])) else none) = _
    rw [if_pos ⟨hs, hs⟩]
  have e2 : PyData.eqv (.tuple [.str a, .str b]) (.tuple [.str a, .str b]) = true := by simp [PyData.eqv, PyData.eqvAll]
  rw [e2] at e
  unfold eqD; rw [e]; cases neg <;> rfl
theorem Oc.eq {o : Oc} (h : o.Ok) : (eqD true o.due o.due : M S D) s = .ok (.bl false) s := by
  cases o with
  | key n => exact eq_two (strOk_of "key") (strOk_of _)
  | kind K t => exact eq_two (strOk_of "kind") (show Shn K t from h).txt
  | dat => exact eq_two (strOk_of "dates") (strOk_of "")
  | date Y t => exact eq_two (strOk_of "date") (show Shn Y t from h).txt
abbrev errs23 : List Str := ["BadDates", "BadKind", "NoDate"]
theorem runF_of {rd : Env → M S Flw} {ds : List D} {d x : D} (h : rd [none, some (.own ds), va d, none] s = .ok (.rt x) s) : runF rd ds d s = .ok x s := by
  unfold runF; rw [h]
theorem told23 {o : Oc} (ho : o.Ok) {τ : Env → M S D} {env : Env} (h : τ (hide env) s = o.res s) : toldF errs23 τ (rd__law_told cs) env s = .ok o.due s := by
  unfold toldF
  rw [h]
  cases o with
  | key n =>
    show runF (rd__law_told cs) [.int n] .non s = _
    refine runF_of ?_
    unfold rd__law_told
    exact seq_ret (s1 := s) rfl (ret_of (tupD_of (aCons_of (s1 := s) rfl (aCons_of (s1 := s) (call1_of (x := .int n) (s1 := s) rfl (repr_int ho)) rfl)) (by show 2 ≤ _; decide)))
  | kind K t =>
    have ho : Shn K t := ho
    show (if ("BadKind" : Str) ∈ errs23 then runF (rd__law_told cs) [] (xKind K) s else .stk) = _
    rw [if_pos (by decide +kernel)]
    refine runF_of ?_
    have e1 : (sIf (asT (bin (isXD false) (rVar 2) (rC .non))) (sRet (tupD (aCons (rC (.str "key")) (aCons (bcl reprD (aCons (ixO 1 (rC (.int 0))) aNil)) aNil)))) sNx : Env → M S Flw) [none, some (.own []), va (xKind K), none] s = .ok (.nx [none, some (.own []), va (xKind K), none]) s := rfl
    have e2 : (sAsg (lstD (aCons (isiX (tb_kit_xty_BadKind cs) tbx_BadKind (rVar 2)) (aCons (isiX (tb_kit_xty_BadDates cs) tbx_BadDates (rVar 2)) (aCons (isiX (tb_kit_xty_NoDate cs) tbx_NoDate (rVar 2)) aNil)))) (gNm 3) : Env → M S Flw) [none, some (.own []), va (xKind K), none] s = .ok (.nx [none, some (.own []), va (xKind K), va (.lst [.bl true, .bl false, .bl false])]) s := by kernel_rfl
    have e4 : (orT (asT (bin (eqD true) (cntB (rVar 3) (rC (.bl true))) (rC (.int 1)))) (notT (asT (isiX (tb_kit_xty_ValueError cs) tbx_ValueError (rVar 2)))) : Env → M S Bool) [none, some (.own []), va (xKind K), va (.lst [.bl true, .bl false, .bl false])] s = .ok false s := by kernel_rfl
    have e5 : (asT (bin ixD (rVar 3) (rC (.int 0))) : Env → M S Bool) [none, some (.own []), va (xKind K), va (.lst [.bl true, .bl false, .bl false])] s = .ok true s := by kernel_rfl
    have e7 : (xfD ["BadKind"] "kind" (rVar 2) : Env → M S D) [none, some (.own []), va (xKind K), va (.lst [.bl true, .bl false, .bl false])] s = .ok K s := by kernel_rfl
    unfold rd__law_told
    exact seq_of e1 (seq_of e2 (seq_skip e4 (seq_ret e5 (ret_of (tupD_of (aCons_of (s1 := s) rfl (aCons_of (s1 := s) (call1_of e7 (ho.rep S s)) rfl)) (by show 2 ≤ _; decide))))))
  | dat =>
    show (if ("BadDates" : Str) ∈ errs23 then runF (rd__law_told cs) [] xDat s else .stk) = _
    rw [if_pos (by decide +kernel)]
    refine runF_of ?_
    show rd__law_told cs [none, some (.own []), va xDat, none] s = _
    kernel_rfl
  | date Y t =>
    have ho : Shn Y t := ho
    show (if ("NoDate" : Str) ∈ errs23 then runF (rd__law_told cs) [] (xDate Y) s else .stk) = _
    rw [if_pos (by decide +kernel)]
    refine runF_of ?_
    have e1 : (sIf (asT (bin (isXD false) (rVar 2) (rC .non))) (sRet (tupD (aCons (rC (.str "key")) (aCons (bcl reprD (aCons (ixO 1 (rC (.int 0))) aNil)) aNil)))) sNx : Env → M S Flw) [none, some (.own []), va (xDate Y), none] s = .ok (.nx [none, some (.own []), va (xDate Y), none]) s := rfl
    have e2 : (sAsg (lstD (aCons (isiX (tb_kit_xty_BadKind cs) tbx_BadKind (rVar 2)) (aCons (isiX (tb_kit_xty_BadDates cs) tbx_BadDates (rVar 2)) (aCons (isiX (tb_kit_xty_NoDate cs) tbx_NoDate (rVar 2)) aNil)))) (gNm 3) : Env → M S Flw) [none, some (.own []), va (xDate Y), none] s = .ok (.nx [none, some (.own []), va (xDate Y), va (.lst [.bl false, .bl false, .bl true])]) s := by kernel_rfl
    have e4 : (orT (asT (bin (eqD true) (cntB (rVar 3) (rC (.bl true))) (rC (.int 1)))) (notT (asT (isiX (tb_kit_xty_ValueError cs) tbx_ValueError (rVar 2)))) : Env → M S Bool) [none, some (.own []), va (xDate Y), va (.lst [.bl false, .bl false, .bl true])] s = .ok false s := by kernel_rfl
    have e5 : (asT (bin ixD (rVar 3) (rC (.int 0))) : Env → M S Bool) [none, some (.own []), va (xDate Y), va (.lst [.bl false, .bl false, .bl true])] s = .ok false s := by kernel_rfl
    have e6 : (asT (bin ixD (rVar 3) (rC (.int 1))) : Env → M S Bool) [none, some (.own []), va (xDate Y), va (.lst [.bl false, .bl false, .bl true])] s = .ok false s := by kernel_rfl
    have e7 : (xfD ["NoDate"] "date" (rVar 2) : Env → M S D) [none, some (.own []), va (xDate Y), va (.lst [.bl false, .bl false, .bl true])] s = .ok Y s := by kernel_rfl
    unfold rd__law_told
    exact seq_of e1 (seq_of e2 (seq_skip e4 (seq_skip e5 (ret_of (ite_f e6 (tupD_of (aCons_of (s1 := s) rfl (aCons_of (s1 := s) (call1_of e7 (ho.rep S s)) rfl)) (by show 2 ≤ _; decide)))))))
end
end DL
set_option Elab.async false
set_option linter.all false
set_option maxRecDepth 100000
set_option maxHeartbeats 1000000
set_option autoImplicit false
/-! k23: what key_of does and what is due -/
namespace DL
open PySem PySem.Spec PyProof.Rows L2 Rh
section
variable {S : Type} {s : S} {env : Env} {cs : List Str}
theorem int_test {N : D} {k : Nat} {u : Env → M S Bool} {f : Int → Bool} (hp : plV N = true) (hi : env[k]? = some (va N)) (hf : ∀ n, N = .int n → u env s = .ok (!f n) s) : (orT (notT (asT (isi (tb_kit_ty_int cs) (rVar k)))) (orT (asT (isi (tb_kit_ty_bool cs) (rVar k))) u) : Env → M S Bool) env s = .ok (!intF f N) s := by
  have t1 : ∀ {b : Bool}, isiD (tb_kit_ty_int cs) N s = Res.ok (.bl b) s → (notT (asT (isi (tb_kit_ty_int cs) (rVar k))) : Env → M S Bool) env s = .ok (!b) s := fun {b} h => not_of (asT_of (isi_of1 (x := N) (s1 := s) (rVar_run hi) h))
  have t2 : ∀ {b : Bool}, isiD (tb_kit_ty_bool cs) N s = Res.ok (.bl b) s → (asT (isi (tb_kit_ty_bool cs) (rVar k)) : Env → M S Bool) env s = .ok b s := fun {b} h => asT_of (isi_of1 (x := N) (s1 := s) (rVar_run hi) h)
  cases N with
  | int n => exact or_f (t1 (b := true) (by kernel_rfl)) (or_f (t2 (b := false) (by kernel_rfl)) (hf n rfl))
  | bl b => exact or_f (t1 (b := true) (by kernel_rfl)) (or_t (t2 (b := true) (by kernel_rfl)))
  | non => exact or_t (t1 (b := false) (by kernel_rfl))
  | str x => exact or_t (t1 (b := false) (by kernel_rfl))
  | lst x => exact or_t (t1 (b := false) (by kernel_rfl))
  | tup x => exact or_t (t1 (b := false) (by kernel_rfl))
  | dct x => exact or_t (t1 (b := false) (by kernel_rfl))
  | _ => cases hp
/-! ### kinds -/
structure KindV (cs : List Str) (K : D) (o : Option Str) : Prop where
  need : ∀ (S : Type) (s : S), (sem_need_kindX cs [K] : M S D) s = resO (o.map fun _ => xKind K) s
  tst : ∀ (S : Type) (s : S) (b c : Option Slot), (orT (notT (asT (isi (tb_kit_ty_str cs) (rVar 0)))) (asT (bin (inD true) (rVar 0) (cal sem__law_kinds [] 0 aNil))) : Env → M S Bool) [va K, b, c] s = .ok o.isSome s
  shn : ∀ t, o = some t → Shn K t
  good : o = none → ∃ k ∈ kindsKy, K = .str k
  shw : PlN K 2 100
theorem kind_good {k : Str} (hk : k ∈ kindsKy) : KindV cs (.str k) none := by
  simp only [kindsKy, List.mem_cons, List.not_mem_nil, or_false] at hk
  refine ⟨?_, ?_, (fun t e => nomatch e), fun _ => ⟨k, by simpa using hk, rfl⟩, ?_⟩
  · rcases hk with rfl | rfl | rfl | rfl <;> exact fun S s => by kernel_rfl
  · rcases hk with rfl | rfl | rfl | rfl <;> exact fun S s b c => by kernel_rfl
  · rcases hk with rfl | rfl | rfl | rfl <;> refine ⟨_, rfl, ?_, ?_, ?_, ?_, ?_⟩ <;> decide +kernel
theorem kinds_odd : ∀ K ∈ oddS ++ [.str "Date", .str "key", .str "ages"], ∃ o, KindV cs K o := by
  intro K hK
  have hs : ∃ t, Shn K t := by
    rcases List.mem_append.mp hK with h | h
    · exact odd_shn K h
    · simp only [List.mem_cons, List.not_mem_nil, or_false] at h
      rcases h with rfl | rfl | rfl <;> exact ⟨_, shn_of rfl rfl rfl (by decide +kernel) (by decide +kernel) (by decide +kernel) (by decide +kernel) (by decide +kernel) (by decide +kernel)⟩
  obtain ⟨t, ht⟩ := hs
  simp only [oddS, List.cons_append, List.nil_append, List.mem_cons, List.not_mem_nil, or_false] at hK
  refine ⟨some t, ?_, ?_, fun _ e => by cases e; exact ht, (fun e => nomatch e), ht.nst⟩
  · show ∀ (S : Type) (s : S), (sem_need_kindX cs [K] : M S D) s = .err (xKind K) s
    rcases hK with rfl | rfl | rfl | rfl | rfl | rfl | rfl | rfl | rfl | rfl | rfl | rfl | rfl | rfl | rfl <;> exact fun S s => by kernel_rfl
  · show ∀ (S : Type) (s : S) (b c : Option Slot), (orT (notT (asT (isi (tb_kit_ty_str cs) (rVar 0)))) (asT (bin (inD true) (rVar 0) (cal sem__law_kinds [] 0 aNil))) : Env → M S Bool) [va K, b, c] s = .ok true s
    rcases hK with rfl | rfl | rfl | rfl | rfl | rfl | rfl | rfl | rfl | rfl | rfl | rfl | rfl | rfl | rfl <;> exact fun S s b c => by kernel_rfl
def strOf : D → Str
  | .str k => k
  | _ => ""
/-- what happens, and what is due -/
def outOf (K : D) (oK : Option Str) (oB : Option D) (ds : List Int) (Y : D) (tY : Str) : Oc := match oK with
  | some t => .kind K t
  | none => match oB with
    | some _ => .dat
    | none => match Y, wantD ds Y with
      | .int n, true => .key (keyV (strOf K) ds n)
      | _, _ => .date Y tY
theorem out_date {K : D} {ds : List Int} {Y : D} {tY : Str} (h : wantD ds Y = false) : outOf K none none ds Y tY = .date Y tY := by
  unfold outOf
  cases Y <;> simp_all
theorem key_out {K B Y : D} {oK : Option Str} {oB : Option D} {ds : List Int} {tY : Str} (hK : KindV cs K oK) (hn : ∀ (S : Type) (s : S), (sem_need_datesX cs [B] : M S D) s = resO oB s) (hx : oB = none ∨ oB = some xDat) (hB : oB = none → Dts ds ∧ (B = .lst (ds.map .int) ∨ B = .tup (ds.map .int))) (hY : plV Y = true) :
    (sem_key_of cs [K, B, Y] : M S D) s = (outOf K oK oB ds Y tY).res s := by
  have eK : (sDrop (cal (sem_need_kindX cs) [] 1 (aCons (rVar 0) aNil)) : Env → M S Flw) [va K, va B, va Y] s = resF (oK.map fun _ => xKind K) [va K, va B, va Y] s := drop1 (d := K) rfl (hK.need S s)
  have eB : (sDrop (cal (sem_need_datesX cs) [] 1 (aCons (rVar 1) aNil)) : Env → M S Flw) [va K, va B, va Y] s = resF oB [va K, va B, va Y] s := drop1 (d := B) rfl (hn S s)
  cases oK with
  | some t => exact runB_err (show rd_key_of cs [va K, va B, va Y] s = _ from seq_err eK)
  | none =>
    rcases hx with rfl | rfl
    · obtain ⟨hd, hBd⟩ := hB rfl
      obtain ⟨k, hk, rfl⟩ := hK.good rfl
      have eY : (sDrop (cal (sem_need_dateX cs) [] 2 (aCons (rVar 1) (aCons (rVar 2) aNil))) : Env → M S Flw) [va (.str k), va B, va Y] s = resF (if wantD ds Y = true then none else some (xDate Y)) [va (.str k), va B, va Y] s := drop_res (by
        rw [cal_run, aCons_of (d := B) (s1 := s) (rVar_run rfl) (aCons_of (d := Y) (s1 := s) (rVar_run rfl) rfl)]
        exact needdate_run hBd hY)
      cases hw : wantD ds Y with
      | false =>
        rw [out_date hw]
        rw [hw] at eY
        exact runB_err (show rd_key_of cs [va (.str k), va B, va Y] s = _ from seq_of eK (seq_of eB (seq_err eY)))
      | true =>
        rw [hw] at eY
        cases Y with
        | int n =>
          have hm : n ∈ ds := of_decide_eq_true hw
          have e : outOf (.str k) none none ds (.int n) tY = .key (keyV k ds n) := by
            unfold outOf
            simp only [hw]
            rfl
          rw [e]
          refine runB_rt (show rd_key_of cs [va (.str k), va B, va (.int n)] s = _ from seq_of eK (seq_of eB (seq_of eY (ret_of ?_))))
          rw [cal_run, aCons_of (d := .str k) (s1 := s) (rVar_run rfl) (aCons_of (s1 := s) (lst_run hBd rfl) (aCons_of (d := .int n) (s1 := s) (rVar_run rfl) rfl))]
          exact keyP_ok hd hk hm
        | _ => cases hw
    · exact runB_err (show rd_key_of cs [va K, va B, va Y] s = _ from seq_of eK (seq_err eB))
theorem due_out {K B Y : D} {oK : Option Str} {oB : Option D} {ds : List Int} {tY : Str} (hK : KindV cs K oK) (hD : DatV cs B oB) (hB : oB = none → Dts ds ∧ (B = .lst (ds.map .int) ∨ B = .tup (ds.map .int))) (hY : Shn Y tY) :
    (sem__law_due cs [K, B, Y] : M S D) s = .ok (outOf K oK oB ds Y tY).due s := by
  refine runB_rt ?_
  show rd__law_due cs [va K, va B, va Y] s = _
  unfold rd__law_due
  have eK := hK.tst S s (va B) (va Y)
  have two : ∀ {x y : Str}, 2 ≤ 100 := fun {_ _} => by decide
  cases oK with
  | some t =>
    have ht := hK.shn t rfl
    exact seq_ret eK (ret_of (tupD_of (aCons_of (s1 := s) rfl (aCons_of (s1 := s) (call1_of (x := K) (s1 := s) (rVar_run rfl) (ht.rep S s)) rfl)) (by show 2 ≤ _; decide)))
  | none =>
    refine seq_skip eK ?_
    have eB : (notT (asT (cal (sem__law_are_dates cs) [] 1 (aCons (rVar 1) aNil))) : Env → M S Bool) [va K, va B, va Y] s = .ok (!oB.isNone) s := not_of (asT_of (cal1_of (x := B) (rVar_run rfl) (hD.law S s)))
    rcases hD.exc with rfl | rfl
    · refine seq_skip eB ?_
      obtain ⟨hd, hBd⟩ := hB rfl
      obtain ⟨k, hk, rfl⟩ := hK.good rfl
      have eY : (orT (notT (asT (isi (tb_kit_ty_int cs) (rVar 2)))) (orT (asT (isi (tb_kit_ty_bool cs) (rVar 2))) (asT (bin (inD true) (rVar 2) (rVar 1)))) : Env → M S Bool) [va (.str k), va B, va Y] s = .ok (!wantD ds Y) s := by
        have : wantD ds Y = intF (fun n => decide (n ∈ ds)) Y := by cases Y <;> rfl
        rw [this]
        refine int_test (f := fun n => decide (n ∈ ds)) hY.pl rfl fun n e => ?_
        subst e
        refine asT_of (bin_of (s1 := s) (s2 := s) (x := .int n) (y := B) (rVar_run rfl) (rVar_run rfl) ?_)
        rcases hBd with rfl | rfl
        · exact inL_of
        · exact inL_of
      cases hw : wantD ds Y with
      | false =>
        rw [out_date hw]
        rw [hw] at eY
        exact seq_ret eY (ret_of (tupD_of (aCons_of (s1 := s) rfl (aCons_of (s1 := s) (call1_of (x := Y) (s1 := s) (rVar_run rfl) (hY.rep S s)) rfl)) (by show 2 ≤ _; decide)))
      | true =>
        rw [hw] at eY
        refine seq_skip eY ?_
        cases Y with
        | int n =>
          have hm : n ∈ ds := of_decide_eq_true hw
          have e : outOf (.str k) none none ds (.int n) tY = .key (keyV k ds n) := by
            unfold outOf
            simp only [hw]
            rfl
          rw [e]
          have hb := keyV_bd hd (kind := k) hm
          refine ret_of (tupD_of (aCons_of (s1 := s) rfl (aCons_of (s1 := s) (call1_of (x := .int (keyV k ds n)) (s1 := s) ?_ (repr_int (by omega))) rfl)) (by show 2 ≤ _; decide))
          rw [cal_run, aCons_of (d := .str k) (s1 := s) (rVar_run rfl) (aCons_of (d := B) (s1 := s) (rVar_run rfl) (aCons_of (d := .int n) (s1 := s) (rVar_run rfl) rfl))]
          exact keyL_ok hd hk hm hBd
        | _ => cases hw
    · exact seq_ret eB rfl
theorem out_ok {K Y : D} {oK : Option Str} {oB : Option D} {ds : List Int} {tY : Str} (hK : KindV cs K oK) (hx : oB = none ∨ oB = some xDat) (hB : oB = none → Dts ds) (hY : Shn Y tY) : (outOf K oK oB ds Y tY).Ok := by
  cases oK with
  | some t => exact hK.shn t rfl
  | none =>
    rcases hx with rfl | rfl
    · cases hw : wantD ds Y with
      | false => rw [out_date hw]; exact hY
      | true =>
        cases Y with
        | int n =>
          have hm : n ∈ ds := of_decide_eq_true hw
          have e : outOf K none none ds (.int n) tY = .key (keyV (strOf K) ds n) := by
            unfold outOf
            simp only [hw]
          rw [e]
          have hb := keyV_bd (hB rfl) (kind := (strOf K)) hm
          show Int.natAbs _ < _
          omega
        | _ => cases hw
    · trivial
end
end DL
set_option Elab.async false
set_option linter.all false
set_option maxRecDepth 100000
set_option maxHeartbeats 1000000
set_option autoImplicit false
/-! k23: the law -/
namespace DL
open PySem PySem.Spec PyProof.Rows L2 Rh
section
variable {cs : List Str}
abbrev E23 (ns : List Int) (x2 x3 x4 x5 x6 x7 : Option Slot) : Env := [some (.val (.scr ns)), some (.val (.hnd 0)), x2, x3, x4, x5, x6, x7]
theorem calK_o {S : Type} {s s1 : S} {env : Env} {sem : List D → M S D} {ix : List Nat} {n : Nat} {α : Env → M S (List D)} {ds : List D} (ha : α env s = .ok ds s1) (hn : ds.length = n ∧ (perm ix ds).length = ix.length) {r : Res S D} (h : sem (perm ix ds) s1 = r) : calK sem ix n α env s = r := by
  show ((α env s).bind fun ds s' => grd (ds.length = n ∧ (perm ix ds).length = ix.length) (sem (perm ix ds)) s') = _
  rw [ha, Res.bind_ok, grd_pos hn, h]
theorem pln_pl {d : D} {a b : Nat} (h : PlN d a b) : plV d = true := by
  obtain ⟨x, h1, -⟩ := h
  cases d <;> first | rfl | cases h1
theorem is_lst {S : Type} {s : S} {env : Env} {B : D} {k : Nat} (hp : plV B = true) (hi : env[k]? = some (va B)) : (∃ es, B = .lst es ∧ (asT (isi (tb_kit_ty_list cs) (rVar k)) : Env → M S Bool) env s = .ok true s) ∨ (asT (isi (tb_kit_ty_list cs) (rVar k)) : Env → M S Bool) env s = .ok false s := by
  cases B with
  | lst es => exact .inl ⟨es, rfl, asT_of (isi_of1 (x := .lst es) (s1 := s) (rVar_run hi) (by kernel_rfl))⟩
  | int n => exact .inr (asT_of (isi_of1 (x := .int n) (s1 := s) (rVar_run hi) (by kernel_rfl)))
  | bl b => exact .inr (asT_of (isi_of1 (x := .bl b) (s1 := s) (rVar_run hi) (by kernel_rfl)))
  | non => exact .inr (asT_of (isi_of1 (x := .non) (s1 := s) (rVar_run hi) (by kernel_rfl)))
  | str x => exact .inr (asT_of (isi_of1 (x := .str x) (s1 := s) (rVar_run hi) (by kernel_rfl)))
  | tup x => exact .inr (asT_of (isi_of1 (x := .tup x) (s1 := s) (rVar_run hi) (by kernel_rfl)))
  | dct x => exact .inr (asT_of (isi_of1 (x := .dct x) (s1 := s) (rVar_run hi) (by kernel_rfl)))
  | _ => cases hp
theorem gt_test {cells : List Int} {env : Env} {i : Nat} {m : Int} (hi : env[i]? = some (va (.hnd 0))) (hm : 0 < m ∧ m < 1000) : Yes (asT (bin gtD (cal (sem__law_take cells) [] 2 (aCons (rVar i) (aCons (rC (.int m)) aNil))) (rC (.int 0))) env) fun _ => True := fun s => by
  obtain ⟨_, s1, e, v, rfl, hv⟩ := take_in (cells := cells) (env := env) (i := i) (τ := rC (.int m)) (many := m) hi (IntE.c rfl) hm.1 (by omega) s
  exact ⟨_, s1, asT_of (bin_of (x := .int v) (y := .int 0) e rfl rfl), trivial⟩
theorem law_yes (cells ns : List Int) : Yes (rd_law cs cells (E23 ns none none none none none none)) fun f => f = .rt (.bl true) := by
  unfold rd_law
  refine Yes.seq (I := fun e => ∃ x2 x3 x4 x5 x6 x7 : Option Slot, e = E23 ns x2 x3 x4 x5 x6 x7) ?_ ?_
  rotate_left
  · rintro _ ⟨x2, x3, x4, x5, x6, x7, rfl⟩
    exact fun s => ⟨_, s, rfl, rfl⟩
  show Yes (sFor _ _ _ _) _
  refine Yes.bind (P := fun _ => True) ?_ fun ds hd => ?_
  · intro s
    refine ⟨rngD 0 (6 + (if (20 : Int) < ns.length then (20 : Int) else (ns.length : Int))), s, ?_, trivial⟩
    refine Det.rng (j := 6 + (if (20 : Int) < ns.length then (20 : Int) else (ns.length : Int))) (Det.bin Det.c (y := .int (if (20 : Int) < ns.length then 20 else ns.length)) (Det.call2 (y := .int 20) (Det.call1 (z := .int ns.length) (Det.var rfl) fun s => rfl) Det.c fun s => rfl) fun s => addD_int) ?_ s
    split <;> omega
  refine Yes.loop _ ?_ ⟨none, none, none, none, none, none, rfl⟩
  rintro tn - _ ⟨x2, x3, x4, x5, x6, x7, rfl⟩
  refine Yes.mono (Yes.of fun s => gNm_run) ?_
  rintro _ rfl
  show Yes (sSeq _ _ (E23 ns (va tn) x3 x4 x5 x6 x7)) _
  -- dates, kind
  refine Yes.seq (Yes.tup23 (P := fun d => ∃ ds : List Int, Dts ds ∧ d = .lst (ds.map .int)) (Q := fun K => ∃ o, KindV cs K o) (Yes.calOf (ds := [.hnd 0, .int 12]) (fun s => rfl) rfl (datesX_yes cells)) (Yes.mono (pick_list (ds := kindsKy.map .str) rfl (fun s => ⟨_, s, by kernel_rfl, rfl⟩) (by decide) (by decide)) ?_)) ?_
  · intro d hd
    obtain ⟨k, hk, rfl⟩ := List.mem_map.mp hd
    exact ⟨_, kind_good hk⟩
  rintro _ ⟨_, K0, ⟨ds0, hd0, rfl⟩, hK0, rfl⟩
  have hf := hd0.few
  show Yes (sSeq _ _ (E23 ns (va tn) (va (.lst (ds0.map .int))) (va K0) x5 x6 x7)) _
  -- a day
  refine Yes.seq (Yes.set (P := fun Y => ∃ t, Shn Y t) (Yes.iteY (gt_test rfl (by decide)) (Yes.mono (pick_list (ds := ds0.map .int ++ [.int 0, .int 7]) rfl (Yes.det (Det.add_lst (Det.var rfl) (lstD_det (aCons_det Det.c (aCons_det Det.c aNil_det))) (by rw [List.length_map]; simp; omega))) (by simp) (by simp; omega)) ?_)
    (pick_all (n := 2) rfl (AllE.cons (Yes.calOf (ds := [.hnd 0]) (fun s => rfl) rfl (Yes.mono (odd_yes cells) odd_shn)) (AllE.cons (fun s => ⟨.bl false, s, rfl, _, shn_of rfl rfl rfl (by decide +kernel) (by decide +kernel) (by decide +kernel) (by decide +kernel) (by decide +kernel) (by decide +kernel)⟩) AllE.nil)) (by decide) (by decide)))) ?_
  · intro d hd
    rcases List.mem_append.mp hd with h | h
    · obtain ⟨n, hn, rfl⟩ := List.mem_map.mp h
      have := hd0.lo n hn
      exact ⟨_, shn_int (by omega)⟩
    · simp only [List.mem_cons, List.not_mem_nil, or_false] at h
      rcases h with rfl | rfl
      · exact ⟨_, shn_int (by decide)⟩
      · exact ⟨_, shn_int (by decide)⟩
  rintro _ ⟨Y, ⟨tY, hY⟩, rfl⟩
  show Yes (sSeq _ _ (E23 ns (va tn) (va (.lst (ds0.map .int))) (va K0) (va Y) x6 x7)) _
  -- another kind
  refine Yes.seq (Yes.ifNx (I := fun e => ∃ K o, KindV cs K o ∧ e = E23 ns (va tn) (va (.lst (ds0.map .int))) (va K) (va Y) x6 x7) (take_test rfl (by decide)) (Yes.mono (Yes.set (pick_all (n := 4) (P := fun d => d ∈ oddS ++ [.str "Date", .str "key", .str "ages"]) rfl (AllE.cons (Yes.calOf (ds := [.hnd 0]) (fun s => rfl) rfl (Yes.mono (odd_yes cells) fun d h => List.mem_append_left _ h)) (AllE.cons (fun s => ⟨.str "Date", s, rfl, List.mem_append_right _ (by simp)⟩) (AllE.cons (fun s => ⟨.str "key", s, rfl, List.mem_append_right _ (by simp)⟩) (AllE.cons (fun s => ⟨.str "ages", s, rfl, List.mem_append_right _ (by simp)⟩) AllE.nil)))) (by decide) (by decide))) ?_) ?_) ?_
  · rintro _ ⟨_, rfl, K, hK, rfl⟩
    obtain ⟨o, h⟩ := kinds_odd (cs := cs) K hK
    exact ⟨_, rfl, K, o, h, rfl⟩
  · obtain ⟨o, h⟩ := hK0
    exact ⟨K0, o, h, rfl⟩
  rintro _ ⟨K, oK, hK, rfl⟩
  -- bent
  have good0 : ∃ o, DatV cs (.lst (ds0.map .int)) o := by
    have := mixed_dat (cs := cs) (ds := ds0) (es := []) (m := []) hd0.lo (by simp) (by simp) (by simp; omega)
    simpa using this
  refine Yes.seq (Yes.ifNx (I := fun e => ∃ B o, DatV cs B o ∧ e = E23 ns (va tn) (va B) (va K) (va Y) x6 x7) (take_test rfl (by decide)) (Yes.mono (Yes.set (Yes.calOf (ds := [.hnd 0, .lst (ds0.map .int)]) (fun s => rfl) rfl (bent_yes (cs := cs) cells hd0))) ?_) ?_) ?_
  · rintro _ ⟨_, rfl, B, ⟨o, hB⟩, rfl⟩
    exact ⟨_, rfl, B, o, hB, rfl⟩
  · obtain ⟨o, h⟩ := good0
    exact ⟨_, o, h, rfl⟩
  rintro _ ⟨B, oB, hB, rfl⟩
  obtain ⟨ds, hds⟩ : ∃ ds : List Int, oB = none → Dts ds ∧ (B = .lst (ds.map .int) ∨ B = .tup (ds.map .int)) := by
    cases oB with
    | none => obtain ⟨ds, h1, h2⟩ := hB.good rfl; exact ⟨ds, fun _ => ⟨h1, h2⟩⟩
    | some x => exact ⟨[], fun e => nomatch e⟩
  obtain ⟨o, ho⟩ : ∃ o : Oc, o = outOf K oK oB ds Y tY := ⟨_, rfl⟩
  have ook : o.Ok := by rw [ho]; exact out_ok hK hB.exc (fun e => (hds e).1) hY
  have hdue : ∀ s : DrS, (sem__law_due cs [K, B, Y] : M DrS D) s = .ok o.due s := fun s => by rw [ho]; exact due_out hK hB hds hY
  have hres : ∀ s : DrS, (sem_key_of cs [K, B, Y] : M DrS D) s = o.res s := fun s => by rw [ho]; exact key_out hK (fun S s => hB.need) hB.exc hds hY.pl
  obtain ⟨z, hz, hzr⟩ := (PlN.lst (a := 4) (PlNL.cons (hK.shw.mono (by omega) (Nat.le_refl _)) (PlNL.cons hB.shw (PlNL.cons (hY.nst.mono (by omega) (Nat.le_refl _)) PlNL.nil)))).repr (by omega) (by omega)
  have hrep : ∀ (x6 x7 : Option Slot) (s : DrS), (bcl reprN (aCons (lstD (aCons (rVar 4) (aCons (rVar 3) (aCons (rVar 5) aNil)))) aNil) : Env → M DrS D) (E23 ns (va tn) (va B) (va K) (va Y) x6 x7) s = .ok (.str z) s := fun x6 x7 s => call1_of (s1 := s) (lstD_of (aCons_of (s1 := s) (rVar_run rfl) (aCons_of (s1 := s) (rVar_run rfl) (aCons_of (s1 := s) (rVar_run rfl) rfl))) (by simp)) (hzr DrS s)
  refine Yes.seq (I := fun e => e = E23 ns (va tn) (va B) (va K) (va Y) (va o.due) (va (.str z))) (fun s => ?_) ?_
  · refine ⟨_, s, sPar_run (aCons_of (s1 := s) ?_ (aCons_of (hrep _ _ s) rfl)), _, rfl, rfl⟩
    rw [cal_run, aCons_of (d := K) (s1 := s) (rVar_run rfl) (aCons_of (d := B) (s1 := s) (rVar_run rfl) (aCons_of (d := Y) (s1 := s) (rVar_run rfl) rfl))]
    exact hdue s
  rintro _ rfl
  refine Yes.seqSkip (fun s => ?_) ?_
  · have e1 := told23 (cs := cs) (s := s) ook (τ := cal (sem_key_of cs) [] 3 (aCons (rVar 4) (aCons (rVar 3) (aCons (rVar 5) aNil)))) (env := E23 ns (va tn) (va B) (va K) (va Y) (va o.due) (va (.str z))) (by
      rw [cal_run, aCons_of (d := K) (s1 := s) (rVar_run rfl) (aCons_of (d := B) (s1 := s) (rVar_run rfl) (aCons_of (d := Y) (s1 := s) (rVar_run rfl) rfl))]
      exact hres s)
    refine or_f (s1 := s) (asT_of (bin_of e1 (rVar_run (d := o.due) rfl) (Oc.eq ook))) (asT_of (bin_of (hrep _ _ s) (rVar_run (d := .str z) rfl) ?_))
    rw [eqD_str hz hz]; simp
  refine Yes.seqSkip (fun s => ?_) ?_
  · have e1 := told23 (cs := cs) (s := s) ook (τ := calK (sem_key_of cs) [2, 1, 0] 3 (aCons (rVar 5) (aCons (rVar 3) (aCons (rVar 4) aNil)))) (env := E23 ns (va tn) (va B) (va K) (va Y) (va o.due) (va (.str z))) (calK_o (ds := [Y, B, K]) (s1 := s) (aCons_of (d := Y) (s1 := s) (rVar_run rfl) (aCons_of (d := B) (s1 := s) (rVar_run rfl) (aCons_of (d := K) (s1 := s) (rVar_run rfl) rfl))) ⟨rfl, rfl⟩ (hres s))
    exact asT_of (bin_of e1 (rVar_run (d := o.due) rfl) (Oc.eq ook))
  refine Yes.mono (Yes.skip (fun s => ?_)) (by rintro _ ⟨_, rfl, rfl⟩; exact ⟨_, rfl, _, _, _, _, _, _, rfl⟩)
  rcases is_lst (cs := cs) (s := s) (env := E23 ns (va tn) (va B) (va K) (va Y) (va o.due) (va (.str z))) (k := 3) (pln_pl hB.shw) rfl with ⟨es, rfl, e⟩ | e
  · refine and_t e ?_
    have hresT : (sem_key_of cs [K, .tup es, Y] : M DrS D) s = o.res s := by
      rw [ho]
      refine key_out hK (fun S s => hB.needT) hB.exc (fun q => ⟨(hds q).1, .inr ?_⟩) hY.pl
      rcases (hds q).2 with h | h
      · cases h; rfl
      · cases h
    have e1 := told23 (cs := cs) (s := s) ook (τ := cal (sem_key_of cs) [] 3 (aCons (rVar 4) (aCons (bcl tupleD (aCons (rVar 3) aNil)) (aCons (rVar 5) aNil)))) (env := E23 ns (va tn) (va (.lst es)) (va K) (va Y) (va o.due) (va (.str z))) (by
      rw [cal_run, aCons_of (d := K) (s1 := s) (rVar_run rfl) (aCons_of (d := .tup es) (s1 := s) (call1_of (x := .lst es) (s1 := s) (rVar_run rfl) rfl) (aCons_of (d := Y) (s1 := s) (rVar_run rfl) rfl))]
      exact hresT)
    exact asT_of (bin_of e1 (rVar_run (d := o.due) rfl) (Oc.eq ook))
  · exact and_f e
end
end DL
set_option Elab.async false
set_option linter.all false
set_option maxRecDepth 100000
set_option maxHeartbeats 400000
set_option autoImplicit false
/-! DL: x = a comprehension over a list of one's own -/
namespace DL
open PySem PySem.Spec PyProof.Rows L2
end DL
set_option Elab.async false
set_option linter.all false
set_option maxRecDepth 100000
set_option maxHeartbeats 400000
set_option autoImplicit false
/-! DL: defs that ask for repr, and calls of them, where no repr is under way -/
namespace DL
open PySem PySem.Spec PyProof.Rows L2
section
variable {X : Cx} {CX : CXT} {k : Nat} {f : Addr} {fd : FuncData} {ps : List Str} {sp : Sp} {ds : List Value} {dvs : List V} {E : XK} {x : Str} {p pos : Pos} {e : Expr} {es : List Expr} {t : TA}
theorem run_fnG (hgd : X.A.guards = some []) {pins : List (Addr × Obj)} {σ : L2.St} {H : Hp} {s : Shared} {Q : VK} {us : List Value} {vs : List V} (F : FnG X.prog X.w X.K X.mg X.base CX k f fd ps sp) (hr : Room k X.A) (hb : Binds X.K fd ps ds) (hd : Vals dvs ds) (hx : Passes CX X E)
    (I : Inv X pins σ H s) (r : Vals vs us) (h : sp (vs ++ dvs) H Q E) : wpAny (model X.prog X.w) X.A (call (.ref f) us) (EP X pins σ Q) X.xe s := by
  have r2 : Vals (vs ++ dvs) (us ++ ds) := r.append hd
  have hl : (us ++ ds).length = ps.length := by rw [← r2.length]; exact F.len _ _ _ _ h
  refine wpAny_call (codeAny_mono (F.run X.A X.stack s H ⟨us, []⟩ (us ++ ds) (vs ++ dvs) Q E hgd hr I.env0 (hb s us I.kIn hl) r2 h) fun r s' hq => ?_)
  cases r with
  | error e => exact hx pins σ H s e s' I hq
  | ok fl =>
    cases fl with
    | ret u => exact I.after hq
    | next => exact False.elim hq
    | brk => exact False.elim hq
    | cont => exact False.elim hq
theorem pe_callG (hgd : X.A.guards = some []) (F : FnG X.prog X.w X.K X.mg X.base CX k f fd ps sp) (hr : Room k X.A) (hg : Gl X x) (hm : X.mg x = some (.ref f)) (hk : PySem.W.keepIn X.K (.ref f) = true) (hb : Binds X.K fd ps ds) (hd : Vals dvs ds) (hx : Passes CX X E)
    (ha : PA X (e :: es) t) (hdb : (x == ("__debug__" : Str)) = false := by decide) (he : starEach (e :: es) X.env = (false, eval e X.env) :: starEach es X.env := by rfl) (hpl : (backTo pos (starEach es X.env)).any (·.1) = false := by rfl) :
    PE X (.Call (.Name x p) (e :: es) [] pos) (tCall sp dvs E t) := by
  refine ⟨fun pins s σ H Q I h => ?_⟩
  refine wpAny_Call_Name_kw (ld_glob I hg hm ?_ hdb)
  refine PySem.W.callWith_K (h₀ := X.base) I.ok.mod.kin hk (thn (ha.run pos pins s σ H _ I h) fun us s1 ⟨vs, H1, I1, r, q⟩ => ⟨I1.kIn, ?_⟩) he hpl
  exact run_fnG hgd F hr hb hd hx I1 r q
end
section
variable {S : Type} {X : Cx} {F : Fx S} {k n : Nat} {f : Addr} {fd : FuncData} {ps : List Str} {sem : List D → M S D} {dv : List D} {dvs : List V} {ds : List Value} {x : Str} {p pos : Pos} {e : Expr} {es : List Expr} {α : Env → M S (List D)}
theorem de_callG (hgd : X.A.guards = some []) (G : FnG X.prog X.w X.K X.mg X.base (L2.CX X.prog X.w) k f fd ps (spD F.toCc n sem)) (tk : Takes X F.wish) (hr : Room k X.A) (hg : Gl X x) (hm : X.mg x = some (.ref f)) (hk : PySem.W.keepIn X.K (.ref f) = true) (hb : Binds X.K fd ps ds) (hd : Vals dvs ds) (dr : DfR F.toCc dv dvs)
    (ha : PA X (e :: es) (tA F α)) (hdb : (x == ("__debug__" : Str)) = false := by decide) (he : starEach (e :: es) X.env = (false, eval e X.env) :: starEach es X.env := by rfl) (hpl : (backTo pos (starEach es X.env)).any (·.1) = false := by rfl) :
    PE X (.Call (.Name x p) (e :: es) [] pos) (tE F (cal sem dv n α)) := pe_mono (pe_callG hgd G hr hg hm hk hb hd (passes_F tk) ha hdb he hpl) (tCall_of dr)
end
section
variable {S : Type} {P : Program} {w : World} {K : PySem.W.Frag} {mg : Str → Option Value} {base : Heap} {x qual : Str} {stm : Stmt} {f : Addr} {fd : FuncData} {N ps : List Str} {k : Nat}
theorem fn_bodyG {C : Cc S} {rd : Env → M S Flw} {sem : List D → M S D} (Fn : Fun K x qual stm f fd) (Sc : FnScope N ps (defScope stm)) (hsem : Rfn sem (runB rd N))
    (hb : ∀ (cdv : Value) (A : Around) (outer : List PySem.Env) (s : Shared) (H G : Hp) (E : XK), A.guards = some [] → Room k (A.deeper (envOfC qual (defScope stm) s.heap.objs.size f cdv)) →
      PSs (cxOf (L2.CX P w) P w K mg base N qual (defScope stm) f cdv A outer s H E) (defBody stm) (tS (fxOf C G H E) rd)) : FnG P w K mg base (L2.CX P w) (k + 1) f fd ps (spD C ps.length sem) := by
  refine fun_okG Fn Sc (spD_len rfl) fun cdv A outer s H vs Q E hgd hr h => ?_
  obtain ⟨hl, G, ds, st, g, r, p⟩ := spD_imp hsem vs H Q E h
  refine ⟨_, hb cdv A outer s H G E hgd hr, G, startE N ds, st, ⟨Ext.refl _ _ _, g, repEnv_start r⟩, ?_⟩
  unfold runB at p
  cases q : rd (startE N ds) st with
  | stk => rw [q] at p; exact p
  | err e s' => rw [q] at p; exact fun cls dd σ' G' H' _ ex gd rx => p cls dd G' H' ex gd rx
  | ok fl s' =>
    rw [q] at p
    cases fl with
    | nx e => exact fun σ' G' H' _ st' => p .non G' H' st'.ext st'.gd rfl
    | rt d => exact fun v G' H' _ ex gd rv => p v G' H' ex gd rv
    | bk e => exact p.elim
    | ct e => exact p.elim
end
end DL
set_option Elab.async false
set_option linter.all false
set_option maxRecDepth 100000
set_option maxHeartbeats 4000000
set_option autoImplicit false
namespace DL
open PySem PySem.Spec PyProof.Rows L2 Rh
abbrev NE__law_mixed : List Str := ["_law_draw", "_law_turn", "_law_found", "_law_prime", "_law_blend", "_law_cell"]
abbrev NE__law_take : List Str := ["_law_draw", "_law_many", "_law_found"]
abbrev NE__law_pick : List Str := ["_law_draw", "_law_some"]
abbrev NE__law_shuffled : List Str := ["_law_draw", "_law_some", "_law_left", "_law_found"]
abbrev NE__law_datesX : List Str := ["_law_draw", "_law_most", "_law_wide", "_law_found", "_law_turn"]
abbrev NE__law_kinds : List Str := []
abbrev NE__law_odd : List Str := ["_law_draw"]
abbrev NE__law_bent_dates : List Str := ["_law_draw", "_law_datesx", "_law_odd_here", "_law_at", "_law_way"]
abbrev NE__law_are_dates : List Str := ["_law_thing", "_law_at", "_law_item"]
abbrev NE__law_key : List Str := ["_law_kindx", "_law_datesx", "_law_datex", "_law_one"]
abbrev NE__law_due : List Str := ["_law_kindx", "_law_datesx", "_law_datex"]
abbrev NE_is_kind : List Str := ["thing"]
abbrev NE_need_kindX : List Str := ["kind"]
abbrev NE_is_list : List Str := ["thing"]
abbrev NE_is_number : List Str := ["thing"]
abbrev NE_are_different : List Str := ["thing", "least", "most", "item"]
abbrev NE_are_dates : List Str := ["thing"]
abbrev NE_need_datesX : List Str := ["dates"]
abbrev NE_need_dateX : List Str := ["dates", "date"]
abbrev NE_key_by : List Str := ["kind", "dates", "date", "one"]
abbrev NE_key_of : List Str := ["kind", "dates", "date"]
theorem rfn__law_mixed {cells : List Int} : Rfn (S := DrS) (sem__law_mixed cells) (runB (rd__law_mixed cells) NE__law_mixed) := fun _ _ _ => rfl
theorem rfn__law_take {cells : List Int} : Rfn (S := DrS) (sem__law_take cells) (runB (rd__law_take cells) NE__law_take) := fun _ _ _ => rfl
theorem rfn__law_pick {cells : List Int} : Rfn (S := DrS) (sem__law_pick cells) (runB (rd__law_pick cells) NE__law_pick) := fun _ _ _ => rfl
theorem rfn__law_shuffled {cells : List Int} : Rfn (S := DrS) (sem__law_shuffled cells) (runB (rd__law_shuffled cells) NE__law_shuffled) := fun _ _ _ => rfl
theorem rfn__law_datesX {cells : List Int} : Rfn (S := DrS) (sem__law_datesX cells) (runB (rd__law_datesX cells) NE__law_datesX) := fun _ _ _ => rfl
theorem rfn__law_kinds {S : Type} : Rfn (S := S) (sem__law_kinds) (runB (rd__law_kinds) NE__law_kinds) := fun _ _ _ => rfl
theorem rfn__law_odd {cells : List Int} : Rfn (S := DrS) (sem__law_odd cells) (runB (rd__law_odd cells) NE__law_odd) := fun _ _ _ => rfl
theorem rfn__law_bent_dates {cells : List Int} : Rfn (S := DrS) (sem__law_bent_dates cells) (runB (rd__law_bent_dates cells) NE__law_bent_dates) := fun _ _ _ => rfl
theorem rfn__law_are_dates {S : Type} {cs : List Str} : Rfn (S := S) (sem__law_are_dates cs) (runB (rd__law_are_dates cs) NE__law_are_dates) := fun _ _ _ => rfl
theorem rfn__law_key {S : Type} : Rfn (S := S) (sem__law_key) (runB (rd__law_key) NE__law_key) := fun _ _ _ => rfl
theorem rfn__law_due {S : Type} {cs : List Str} : Rfn (S := S) (sem__law_due cs) (runB (rd__law_due cs) NE__law_due) := fun _ _ _ => rfl
theorem rfn_is_kind {S : Type} {cs : List Str} : Rfn (S := S) (sem_is_kind cs) (runB (rd_is_kind cs) NE_is_kind) := fun _ _ _ => rfl
theorem rfn_need_kindX {S : Type} {cs : List Str} : Rfn (S := S) (sem_need_kindX cs) (runB (rd_need_kindX cs) NE_need_kindX) := fun _ _ _ => rfl
theorem rfn_are_dates {S : Type} {cs : List Str} : Rfn (S := S) (sem_are_dates cs) (runB (rd_are_dates cs) NE_are_dates) := fun _ _ _ => rfl
theorem rfn_need_datesX {S : Type} {cs : List Str} : Rfn (S := S) (sem_need_datesX cs) (runB (rd_need_datesX cs) NE_need_datesX) := fun _ _ _ => rfl
theorem rfn_need_dateX {S : Type} {cs : List Str} : Rfn (S := S) (sem_need_dateX cs) (runB (rd_need_dateX cs) NE_need_dateX) := fun _ _ _ => rfl
theorem rfn_key_by {S : Type} : Rfn (S := S) (sem_key_by) (runB (rd_key_by) NE_key_by) := fun _ _ _ => rfl
theorem rfn_key_of {S : Type} {cs : List Str} : Rfn (S := S) (sem_key_of cs) (runB (rd_key_of cs) NE_key_of) := fun _ _ _ => rfl
abbrev N__law_caught : List Str := ["_law_work", "_law_found", "_law_error"]
abbrev N_BadKind___init__ : List Str := ["self", "kind"]
abbrev N_NoDate___init__ : List Str := ["self", "date"]
abbrev N__law_begun : List Str := ["_law_script", "_law_wide", "_law_cell"]
theorem sc__law_mixed : FnScope NE__law_mixed ["_law_draw"] (defScope s__law_mixed) := ⟨rfl, rfl, rfl, by decide +kernel, rfl, by decide +kernel, by decide +kernel⟩
theorem sc__law_take : FnScope NE__law_take ["_law_draw", "_law_many"] (defScope s__law_take) := ⟨rfl, rfl, rfl, by decide +kernel, rfl, by decide +kernel, by decide +kernel⟩
theorem sc__law_pick : FnScope NE__law_pick ["_law_draw", "_law_some"] (defScope s__law_pick) := ⟨rfl, rfl, rfl, by decide +kernel, rfl, by decide +kernel, by decide +kernel⟩
theorem sc__law_shuffled : FnScope NE__law_shuffled ["_law_draw", "_law_some"] (defScope s__law_shuffled) := ⟨rfl, rfl, rfl, by decide +kernel, rfl, by decide +kernel, by decide +kernel⟩
theorem sc__law_datesX : FnScope NE__law_datesX ["_law_draw", "_law_most"] (defScope s__law_datesX) := ⟨rfl, rfl, rfl, by decide +kernel, rfl, by decide +kernel, by decide +kernel⟩
theorem sc__law_kinds : FnScope NE__law_kinds [] (defScope s__law_kinds) := ⟨rfl, rfl, rfl, by decide +kernel, rfl, by decide +kernel, by decide +kernel⟩
theorem sc__law_odd : FnScope NE__law_odd ["_law_draw"] (defScope s__law_odd) := ⟨rfl, rfl, rfl, by decide +kernel, rfl, by decide +kernel, by decide +kernel⟩
theorem sc__law_bent_dates : FnScope NE__law_bent_dates ["_law_draw", "_law_datesx"] (defScope s__law_bent_dates) := ⟨rfl, rfl, rfl, by decide +kernel, rfl, by decide +kernel, by decide +kernel⟩
theorem sc__law_are_dates : FnScope NE__law_are_dates ["_law_thing"] (defScope s__law_are_dates) := ⟨rfl, rfl, rfl, by decide +kernel, rfl, by decide +kernel, by decide +kernel⟩
theorem sc__law_key : FnScope NE__law_key ["_law_kindx", "_law_datesx", "_law_datex"] (defScope s__law_key) := ⟨rfl, rfl, rfl, by decide +kernel, rfl, by decide +kernel, by decide +kernel⟩
theorem sc__law_due : FnScope NE__law_due ["_law_kindx", "_law_datesx", "_law_datex"] (defScope s__law_due) := ⟨rfl, rfl, rfl, by decide +kernel, rfl, by decide +kernel, by decide +kernel⟩
theorem sc__law_caught : FnScope N__law_caught ["_law_work"] (defScope s__law_caught) := ⟨rfl, rfl, rfl, by decide +kernel, rfl, by decide +kernel, by decide +kernel⟩
theorem sc__law_told : FnScope N__law_told ["_law_work"] (defScope s__law_told) := ⟨rfl, rfl, rfl, by decide +kernel, rfl, by decide +kernel, by decide +kernel⟩
theorem sc_is_kind : FnScope NE_is_kind ["thing"] (defScope s_is_kind) := ⟨rfl, rfl, rfl, by decide +kernel, rfl, by decide +kernel, by decide +kernel⟩
theorem sc_BadKind___init__ : FnScope N_BadKind___init__ ["self", "kind"] (defScope s_BadKind___init__) := ⟨rfl, rfl, rfl, by decide +kernel, rfl, by decide +kernel, by decide +kernel⟩
theorem sc_need_kindX : FnScope NE_need_kindX ["kind"] (defScope s_need_kindX) := ⟨rfl, rfl, rfl, by decide +kernel, rfl, by decide +kernel, by decide +kernel⟩
theorem sc_is_list : FnScope NE_is_list ["thing"] (defScope s_is_list) := ⟨rfl, rfl, rfl, by decide +kernel, rfl, by decide +kernel, by decide +kernel⟩
theorem sc_is_number : FnScope NE_is_number ["thing"] (defScope s_is_number) := ⟨rfl, rfl, rfl, by decide +kernel, rfl, by decide +kernel, by decide +kernel⟩
theorem sc_are_different : FnScope NE_are_different ["thing", "least", "most"] (defScope s_are_different) := ⟨rfl, rfl, rfl, by decide +kernel, rfl, by decide +kernel, by decide +kernel⟩
theorem sc_are_dates : FnScope NE_are_dates ["thing"] (defScope s_are_dates) := ⟨rfl, rfl, rfl, by decide +kernel, rfl, by decide +kernel, by decide +kernel⟩
theorem sc_need_datesX : FnScope NE_need_datesX ["dates"] (defScope s_need_datesX) := ⟨rfl, rfl, rfl, by decide +kernel, rfl, by decide +kernel, by decide +kernel⟩
theorem sc_NoDate___init__ : FnScope N_NoDate___init__ ["self", "date"] (defScope s_NoDate___init__) := ⟨rfl, rfl, rfl, by decide +kernel, rfl, by decide +kernel, by decide +kernel⟩
theorem sc_need_dateX : FnScope NE_need_dateX ["dates", "date"] (defScope s_need_dateX) := ⟨rfl, rfl, rfl, by decide +kernel, rfl, by decide +kernel, by decide +kernel⟩
theorem sc_key_by : FnScope NE_key_by ["kind", "dates", "date"] (defScope s_key_by) := ⟨rfl, rfl, rfl, by decide +kernel, rfl, by decide +kernel, by decide +kernel⟩
theorem sc_key_of : FnScope NE_key_of ["kind", "dates", "date"] (defScope s_key_of) := ⟨rfl, rfl, rfl, by decide +kernel, rfl, by decide +kernel, by decide +kernel⟩
theorem sc__law_begun : FnScope N__law_begun ["_law_script"] (defScope s__law_begun) := ⟨rfl, rfl, rfl, by decide +kernel, rfl, by decide +kernel, by decide +kernel⟩
theorem sc_law : FnScope N_law ["_law_script"] (defScope s_law) := ⟨rfl, rfl, rfl, by decide +kernel, rfl, by decide +kernel, by decide +kernel⟩
structure Txt (K : PySem.W.Frag) (mg : Str → Option Value) : Prop where
  exc_BadDates : PySem.W.excIn K (He.ga K "BadDates") He.veBase "ValueError.__new__" = true ∧ PySem.W.keepIn K (.ref (He.ga K "BadDates")) = true
  exm_SeriesError : ∀ c ∈ (["BadDates", "BadKind", "NoDate"] : List Str), PySem.W.exmOne K (.ref (He.ga K c)) (.ref (He.ga K "SeriesError")) = some true
  free_ValueError : mg "ValueError" = none
  free_abs : mg "abs" = none
  free_all : mg "all" = none
  free_bool : mg "bool" = none
  free_enumerate : mg "enumerate" = none
  free_int : mg "int" = none
  free_isinstance : mg "isinstance" = none
  free_len : mg "len" = none
  free_list : mg "list" = none
  free_min : mg "min" = none
  free_range : mg "range" = none
  free_repr : mg "repr" = none
  free_set : mg "set" = none
  free_sorted : mg "sorted" = none
  free_str : mg "str" = none
  free_tuple : mg "tuple" = none
  glo_BadDates : mg "BadDates" = some (.ref (He.ga K "BadDates"))
  glo_BadKind : mg "BadKind" = some (.ref (He.ga K "BadKind"))
  glo_KINDS : mg "KINDS" = some (.ref (He.ga K "KINDS"))
  glo_NoDate : mg "NoDate" = some (.ref (He.ga K "NoDate"))
  glo_SeriesError : mg "SeriesError" = some (.ref (He.ga K "SeriesError"))
  glo__law_are_dates : mg "_law_are_dates" = some (.ref (He.ga K "_law_are_dates"))
  glo__law_begun : mg "_law_begun" = some (.ref (He.ga K "_law_begun"))
  glo__law_bent_dates : mg "_law_bent_dates" = some (.ref (He.ga K "_law_bent_dates"))
  glo__law_caught : mg "_law_caught" = some (.ref (He.ga K "_law_caught"))
  glo__law_dates : mg "_law_dates" = some (.ref (He.ga K "_law_dates"))
  glo__law_due : mg "_law_due" = some (.ref (He.ga K "_law_due"))
  glo__law_key : mg "_law_key" = some (.ref (He.ga K "_law_key"))
  glo__law_kinds : mg "_law_kinds" = some (.ref (He.ga K "_law_kinds"))
  glo__law_mixed : mg "_law_mixed" = some (.ref (He.ga K "_law_mixed"))
  glo__law_odd : mg "_law_odd" = some (.ref (He.ga K "_law_odd"))
  glo__law_pick : mg "_law_pick" = some (.ref (He.ga K "_law_pick"))
  glo__law_shuffled : mg "_law_shuffled" = some (.ref (He.ga K "_law_shuffled"))
  glo__law_take : mg "_law_take" = some (.ref (He.ga K "_law_take"))
  glo__law_told : mg "_law_told" = some (.ref (He.ga K "_law_told"))
  glo_are_dates : mg "are_dates" = some (.ref (He.ga K "are_dates"))
  glo_are_different : mg "are_different" = some (.ref (He.ga K "are_different"))
  glo_is_kind : mg "is_kind" = some (.ref (He.ga K "is_kind"))
  glo_is_list : mg "is_list" = some (.ref (He.ga K "is_list"))
  glo_is_number : mg "is_number" = some (.ref (He.ga K "is_number"))
  glo_key_by : mg "key_by" = some (.ref (He.ga K "key_by"))
  glo_key_of : mg "key_of" = some (.ref (He.ga K "key_of"))
  glo_need_date : mg "need_date" = some (.ref (He.ga K "need_date"))
  glo_need_dates : mg "need_dates" = some (.ref (He.ga K "need_dates"))
  glo_need_kind : mg "need_kind" = some (.ref (He.ga K "need_kind"))
  gtup_KINDS : tupSB K (He.ga K "KINDS") (["date", "number", "age", "left"] : List Str) = true
  ini_BadKind : PySem.W.findIn K (.ref (He.ga K "BadKind")) "__init__" = some (some (.ref (He.ma K (He.ga K "BadKind") "__init__")))
  ini_NoDate : PySem.W.findIn K (.ref (He.ga K "NoDate")) "__init__" = some (some (.ref (He.ma K (He.ga K "NoDate") "__init__")))
  int_LAST_DATE : ∃ t, mg "LAST_DATE" = some (.int 1000 t)
  int_MOST_DATES : ∃ t, mg "MOST_DATES" = some (.int 12 t)
  oex_BadKind : OexC K (He.ga K "BadKind")
  oex_NoDate : OexC K (He.ga K "NoDate")
  rai_BadDates : PySem.W.subIn K (.ref (He.ga K "BadDates")) (.type "BaseException") = some true ∧ PySem.W.typeIn K (.ref (He.ga K "BadDates")) = some (.type "type")
  tin_BadKind : PySem.W.typeIn K (.ref (He.ma K (He.ga K "BadKind") "__init__")) = some (.type "function")
  tin_NoDate : PySem.W.typeIn K (.ref (He.ma K (He.ga K "NoDate") "__init__")) = some (.type "function")
  xf_date : ∀ c ∈ (["NoDate"] : List Str), ExcC K (He.ga K c) ∧ PySem.W.findIn K (.ref (He.ga K c)) "date" = some none
  xf_kind : ∀ c ∈ (["BadKind"] : List Str), ExcC K (He.ga K c) ∧ PySem.W.findIn K (.ref (He.ga K c)) "kind" = some none
  xno_BadKind_kind : PySem.W.findIn K (.ref (He.ga K "BadKind")) "kind" = some none
  xno_NoDate_date : PySem.W.findIn K (.ref (He.ga K "NoDate")) "date" = some none
  kx_BadDates : ∀ {S : Type} {C : Cc S}, K = C.K → C.cad = He.ga K → KxOk C.K C.cad (fun t => PySem.W.kitOne C.K t (.ref (He.ga K "BadDates"))) tbx_BadDates
  kx_BadKind : ∀ {S : Type} {C : Cc S}, K = C.K → C.cad = He.ga K → KxOk C.K C.cad (fun t => PySem.W.kitOne C.K t (.ref (He.ga K "BadKind"))) tbx_BadKind
  kx_NoDate : ∀ {S : Type} {C : Cc S}, K = C.K → C.cad = He.ga K → KxOk C.K C.cad (fun t => PySem.W.kitOne C.K t (.ref (He.ga K "NoDate"))) tbx_NoDate
  kx_ValueError : ∀ {S : Type} {C : Cc S}, K = C.K → C.cad = He.ga K → KxOk C.K C.cad (fun t => PySem.W.kitOne C.K t (.type "ValueError")) tbx_ValueError
  kit_two_list_tuple : ∀ {S : Type} {C : Cc S}, K = C.K → C.cad = He.ga K → KitOk C.K C.cad (fun t => PySem.W.kitAny C.K t [.type "list", .type "tuple"]) (tb_kit_two_list_tuple cs)
  kit_ty_bool : ∀ {S : Type} {C : Cc S}, K = C.K → C.cad = He.ga K → KitOk C.K C.cad (fun t => PySem.W.kitOne C.K t (.type "bool")) (tb_kit_ty_bool cs)
  kit_ty_int : ∀ {S : Type} {C : Cc S}, K = C.K → C.cad = He.ga K → KitOk C.K C.cad (fun t => PySem.W.kitOne C.K t (.type "int")) (tb_kit_ty_int cs)
  kit_ty_list : ∀ {S : Type} {C : Cc S}, K = C.K → C.cad = He.ga K → KitOk C.K C.cad (fun t => PySem.W.kitOne C.K t (.type "list")) (tb_kit_ty_list cs)
  kit_ty_str : ∀ {S : Type} {C : Cc S}, K = C.K → C.cad = He.ga K → KitOk C.K C.cad (fun t => PySem.W.kitOne C.K t (.type "str")) (tb_kit_ty_str cs)
  kit_xty_BadDates : ∀ {S : Type} {C : Cc S}, K = C.K → C.cad = He.ga K → KitOk C.K C.cad (fun t => PySem.W.kitOne C.K t (.ref (He.ga K "BadDates"))) (tb_kit_xty_BadDates cs)
  kit_xty_BadKind : ∀ {S : Type} {C : Cc S}, K = C.K → C.cad = He.ga K → KitOk C.K C.cad (fun t => PySem.W.kitOne C.K t (.ref (He.ga K "BadKind"))) (tb_kit_xty_BadKind cs)
  kit_xty_NoDate : ∀ {S : Type} {C : Cc S}, K = C.K → C.cad = He.ga K → KitOk C.K C.cad (fun t => PySem.W.kitOne C.K t (.ref (He.ga K "NoDate"))) (tb_kit_xty_NoDate cs)
  kit_xty_ValueError : ∀ {S : Type} {C : Cc S}, K = C.K → C.cad = He.ga K → KitOk C.K C.cad (fun t => PySem.W.kitOne C.K t (.type "ValueError")) (tb_kit_xty_ValueError cs)
theorem dd__law_mixed {P : Program} {w : World} {K : PySem.W.Frag} {mg : Str → Option Value} {base : Heap} {Lm : LamI} {dp wl cl : Addr} {cells : List Int} {Tl : List (Addr × Str)} (hd : dp ≠ wl ∧ dp ≠ cl ∧ wl ≠ cl) (T : Txt K mg) {fd : FuncData} (Fn : Fun K "_law_mixed" "_law_mixed" s__law_mixed (He.ga K "_law_mixed") fd)
   :
  FnOk P w K mg base (L2.CX P w) 1 (He.ga K "_law_mixed") fd ["_law_draw"] (spD (drawCcL Lm K (He.ga K) dp wl cl cells Tl) 1 (sem__law_mixed cells)) := by
  have hCK : K = (drawCcL Lm K (He.ga K) dp wl cl cells Tl).K := rfl
  have hcad : (drawCcL Lm K (He.ga K) dp wl cl cells Tl).cad = He.ga K := rfl
  refine fn_body (N := NE__law_mixed) (rd := rd__law_mixed cells) Fn sc__law_mixed rfn__law_mixed fun cdv A outer s H G E hr => ?_
  have nd := sc__law_mixed.nd
  have hK : (cxOf (L2.CX P w) P w K mg base NE__law_mixed "_law_mixed" (defScope s__law_mixed) (He.ga K "_law_mixed") cdv A outer s H E).K = (fxOf (drawCcL Lm K (He.ga K) dp wl cl cells Tl) G H E).K := hCK
  have tk : Takes (cxOf (L2.CX P w) P w K mg base NE__law_mixed "_law_mixed" (defScope s__law_mixed) (He.ga K "_law_mixed") cdv A outer s H E) (fxOf (drawCcL Lm K (He.ga K) dp wl cl cells Tl) G H E).wish := takes_of rfl rfl rfl rfl
  have R := drF_ofT (L := Lm) (T := Tl) (G := G) (H := H) (E := E) (K := K) (cad := He.ga K) (cells := cells) hd
  exact (dss_cons (ds_asg (de_op or_add (od_add hK) (de_drwGet R (hu_of hr) drw_turn (de_var 0 (pv 0))) de_int) (dg_name 1 (pg_name (i := 1) nd rfl (.inl rfl))))
    (dss_cons (ds_drwSet R (hu_of hr) put_turn (de_var 0 (pv 0)) (de_var 1 (pv 1)))
    (dss_cons (ds_asg de_int (dg_name 2 (pg_name (i := 2) nd rfl (.inl rfl))))
    (dss_cons (ds_for (passes_of rfl) rfl (di_seq hK (de_lst (da_cons de_int (da_cons de_int (da_cons de_int (da_cons de_int da_nil)))))) (dg_name 3 (pg_name (i := 3) nd rfl (.inl rfl))) (dss_cons (ds_asg (de_op op_mod od_mod (de_callTy call_int1 cd_int1 rfl T.free_int (by decide +kernel) (da_cons (de_op or_add (od_add hK) (de_op op_mul od_mul (de_var 1 (pv 1)) de_int) (de_op op_fdiv od_div (de_var 3 (pv 3)) de_int)) da_nil)) (de_var 3 (pv 3))) (dg_name 4 (pg_name (i := 4) nd rfl (.inl rfl))))
    (dss_cons (ds_for (passes_of rfl) rfl (di_cells R (de_drwGet R (hu_of hr) (drw_cells R) (de_var 0 (pv 0)))) (dg_name 5 (pg_name (i := 5) nd rfl (.inl rfl))) (dss_one (ds_asg (de_op op_mod od_mod (de_callTy call_int1 cd_int1 rfl T.free_int (by decide +kernel) (da_cons (de_op or_add (od_add hK) (de_op op_mul od_mul (de_var 4 (pv 4)) de_int) (de_var 5 (pv 5))) da_nil)) (de_var 3 (pv 3))) (dg_name 4 (pg_name (i := 4) nd rfl (.inl rfl))))))
    (dss_one (ds_asg (de_op or_add (od_add hK) (de_op op_mul od_mul (de_var 2 (pv 2)) de_int) (de_op op_mod od_mod (de_callTy call_int1 cd_int1 rfl T.free_int (by decide +kernel) (da_cons (de_op op_pow od_pow (de_var 4 (pv 4)) de_int) da_nil)) (de_var 3 (pv 3)))) (dg_name 2 (pg_name (i := 2) nd rfl (.inl rfl))))))))
    (dss_one (ds_ret (de_var 2 (pv 2))))))))
theorem dd__law_take {P : Program} {w : World} {K : PySem.W.Frag} {mg : Str → Option Value} {base : Heap} {Lm : LamI} {dp wl cl : Addr} {cells : List Int} {Tl : List (Addr × Str)} (hd : dp ≠ wl ∧ dp ≠ cl ∧ wl ≠ cl) (T : Txt K mg) {fd : FuncData} (Fn : Fun K "_law_take" "_law_take" s__law_take (He.ga K "_law_take") fd)
  {fd__law_mixed : FuncData} (F__law_mixed : Fun K "_law_mixed" "_law_mixed" s__law_mixed (He.ga K "_law_mixed") fd__law_mixed) (B__law_mixed : Binds K fd__law_mixed ["_law_draw"] [])
  (G__law_mixed : FnOk P w K mg base (L2.CX P w) 1 (He.ga K "_law_mixed") fd__law_mixed ["_law_draw"] (spD (drawCcL Lm K (He.ga K) dp wl cl cells Tl) 1 (sem__law_mixed cells))) :
  FnOk P w K mg base (L2.CX P w) 2 (He.ga K "_law_take") fd ["_law_draw", "_law_many"] (spD (drawCcL Lm K (He.ga K) dp wl cl cells Tl) 2 (sem__law_take cells)) := by
  have hCK : K = (drawCcL Lm K (He.ga K) dp wl cl cells Tl).K := rfl
  have hcad : (drawCcL Lm K (He.ga K) dp wl cl cells Tl).cad = He.ga K := rfl
  refine fn_body (N := NE__law_take) (rd := rd__law_take cells) Fn sc__law_take rfn__law_take fun cdv A outer s H G E hr => ?_
  have nd := sc__law_take.nd
  have hK : (cxOf (L2.CX P w) P w K mg base NE__law_take "_law_take" (defScope s__law_take) (He.ga K "_law_take") cdv A outer s H E).K = (fxOf (drawCcL Lm K (He.ga K) dp wl cl cells Tl) G H E).K := hCK
  have tk : Takes (cxOf (L2.CX P w) P w K mg base NE__law_take "_law_take" (defScope s__law_take) (He.ga K "_law_take") cdv A outer s H E) (fxOf (drawCcL Lm K (He.ga K) dp wl cl cells Tl) G H E).wish := takes_of rfl rfl rfl rfl
  have R := drF_ofT (L := Lm) (T := Tl) (G := G) (H := H) (E := E) (K := K) (cad := He.ga K) (cells := cells) hd
  exact (dss_cons (ds_if (PW.pt (dw_and (dt_cmp (op_eqD hr.units) (od_eq hK) (de_drwGet R (hu_of hr) drw_left (de_var 0 (pv 0))) de_int (by rfl)) (dw_and1 (dt_neW R hr.units (de_drwGet R (hu_of hr) (drw_wide R) (de_var 0 (pv 0))))))) (dss_one (ds_drwSet R (hu_of hr) put_left (de_var 0 (pv 0)) (de_popW R (de_drwGet R (hu_of hr) (drw_wide R) (de_var 0 (pv 0)))))) dss_nil)
    (dss_cons (ds_if (dt_cmp (op_eqD hr.units) (od_eq hK) (de_drwGet R (hu_of hr) drw_left (de_var 0 (pv 0))) de_int (by rfl)) (dss_one (ds_drwSet R (hu_of hr) put_left (de_var 0 (pv 0)) (de_call G__law_mixed tk (hr.mono (by decide)) rfl T.glo__law_mixed F__law_mixed.kp B__law_mixed .nil DfR.nil (da_cons (de_var 0 (pv 0)) da_nil)))) dss_nil)
    (dss_cons (ds_asg (de_op op_mod od_mod (de_callTy call_int1 cd_int1 rfl T.free_int (by decide +kernel) (da_cons (de_drwGet R (hu_of hr) drw_left (de_var 0 (pv 0))) da_nil)) (de_var 1 (pv 1))) (dg_name 2 (pg_name (i := 2) nd rfl (.inl rfl))))
    (dss_cons (ds_drwSet R (hu_of hr) put_left (de_var 0 (pv 0)) (de_op op_fdiv od_div (de_drwGet R (hu_of hr) drw_left (de_var 0 (pv 0))) (de_var 1 (pv 1))))
    (dss_one (ds_ret (de_var 2 (pv 2))))))))
theorem dd__law_pick {P : Program} {w : World} {K : PySem.W.Frag} {mg : Str → Option Value} {base : Heap} {Lm : LamI} {dp wl cl : Addr} {cells : List Int} {Tl : List (Addr × Str)} (hd : dp ≠ wl ∧ dp ≠ cl ∧ wl ≠ cl) (T : Txt K mg) {fd : FuncData} (Fn : Fun K "_law_pick" "_law_pick" s__law_pick (He.ga K "_law_pick") fd)
  {fd__law_take : FuncData} (F__law_take : Fun K "_law_take" "_law_take" s__law_take (He.ga K "_law_take") fd__law_take) (B__law_take : Binds K fd__law_take ["_law_draw", "_law_many"] [])
  (G__law_take : FnOk P w K mg base (L2.CX P w) 2 (He.ga K "_law_take") fd__law_take ["_law_draw", "_law_many"] (spD (drawCcL Lm K (He.ga K) dp wl cl cells Tl) 2 (sem__law_take cells))) :
  FnOk P w K mg base (L2.CX P w) 3 (He.ga K "_law_pick") fd ["_law_draw", "_law_some"] (spD (drawCcL Lm K (He.ga K) dp wl cl cells Tl) 2 (sem__law_pick cells)) := by
  have hCK : K = (drawCcL Lm K (He.ga K) dp wl cl cells Tl).K := rfl
  have hcad : (drawCcL Lm K (He.ga K) dp wl cl cells Tl).cad = He.ga K := rfl
  refine fn_body (N := NE__law_pick) (rd := rd__law_pick cells) Fn sc__law_pick rfn__law_pick fun cdv A outer s H G E hr => ?_
  have nd := sc__law_pick.nd
  have hK : (cxOf (L2.CX P w) P w K mg base NE__law_pick "_law_pick" (defScope s__law_pick) (He.ga K "_law_pick") cdv A outer s H E).K = (fxOf (drawCcL Lm K (He.ga K) dp wl cl cells Tl) G H E).K := hCK
  have tk : Takes (cxOf (L2.CX P w) P w K mg base NE__law_pick "_law_pick" (defScope s__law_pick) (He.ga K "_law_pick") cdv A outer s H E) (fxOf (drawCcL Lm K (He.ga K) dp wl cl cells Tl) G H E).wish := takes_of rfl rfl rfl rfl
  have R := drF_ofT (L := Lm) (T := Tl) (G := G) (H := H) (E := E) (K := K) (cad := He.ga K) (cells := cells) hd
  exact (dss_one (ds_ret (de_ix ix_seq (od_ix hK) (de_var 1 (pv 1)) (de_call G__law_take tk (hr.mono (by decide)) rfl T.glo__law_take F__law_take.kp B__law_take .nil DfR.nil (da_cons (de_var 0 (pv 0)) (da_cons (de_callB call_len (cd_len hK) rfl T.free_len (by decide +kernel) (da_cons (de_var 1 (pv 1)) da_nil)) da_nil))) (fun _ _ => rfl))))
theorem dd__law_shuffled {P : Program} {w : World} {K : PySem.W.Frag} {mg : Str → Option Value} {base : Heap} {Lm : LamI} {dp wl cl : Addr} {cells : List Int} {Tl : List (Addr × Str)} (hd : dp ≠ wl ∧ dp ≠ cl ∧ wl ≠ cl) (T : Txt K mg) {fd : FuncData} (Fn : Fun K "_law_shuffled" "_law_shuffled" s__law_shuffled (He.ga K "_law_shuffled") fd)
  {fd__law_take : FuncData} (F__law_take : Fun K "_law_take" "_law_take" s__law_take (He.ga K "_law_take") fd__law_take) (B__law_take : Binds K fd__law_take ["_law_draw", "_law_many"] [])
  (G__law_take : FnOk P w K mg base (L2.CX P w) 2 (He.ga K "_law_take") fd__law_take ["_law_draw", "_law_many"] (spD (drawCcL Lm K (He.ga K) dp wl cl cells Tl) 2 (sem__law_take cells))) :
  FnOk P w K mg base (L2.CX P w) 3 (He.ga K "_law_shuffled") fd ["_law_draw", "_law_some"] (spD (drawCcL Lm K (He.ga K) dp wl cl cells Tl) 2 (sem__law_shuffled cells)) := by
  have hCK : K = (drawCcL Lm K (He.ga K) dp wl cl cells Tl).K := rfl
  have hcad : (drawCcL Lm K (He.ga K) dp wl cl cells Tl).cad = He.ga K := rfl
  refine fn_body (N := NE__law_shuffled) (rd := rd__law_shuffled cells) Fn sc__law_shuffled rfn__law_shuffled fun cdv A outer s H G E hr => ?_
  have nd := sc__law_shuffled.nd
  have hK : (cxOf (L2.CX P w) P w K mg base NE__law_shuffled "_law_shuffled" (defScope s__law_shuffled) (He.ga K "_law_shuffled") cdv A outer s H E).K = (fxOf (drawCcL Lm K (He.ga K) dp wl cl cells Tl) G H E).K := hCK
  have tk : Takes (cxOf (L2.CX P w) P w K mg base NE__law_shuffled "_law_shuffled" (defScope s__law_shuffled) (He.ga K "_law_shuffled") cdv A outer s H E) (fxOf (drawCcL Lm K (He.ga K) dp wl cl cells Tl) G H E).wish := takes_of rfl rfl rfl rfl
  have R := drF_ofT (L := Lm) (T := Tl) (G := G) (H := H) (E := E) (K := K) (cad := He.ga K) (cells := cells) hd
  exact (dss_cons (ds_own2 rfl nd rfl rfl (by decide) rfl rfl (de_listW hK rfl T.free_list (by decide +kernel) (de_var 1 (pv 1))) de_nilW (by rfl))
    (dss_cons (ds_while (passes_of rfl) (dt_vw (dt_cmp (op_neD hr.units) (od_ne hK) (de_var 2 (pv 2)) (de_lst da_nil) (by rfl))) (dss_one (ds_appE (pv 3) (de_pop (pv 2) (de_call G__law_take tk (hr.mono (by decide)) rfl T.glo__law_take F__law_take.kp B__law_take .nil DfR.nil (da_cons (de_var 0 (pv 0)) (da_cons (de_lenO rfl T.free_len (pv 2)) da_nil)))))))
    (dss_one (ds_retO (pv 3)))))
theorem dd__law_datesX {P : Program} {w : World} {K : PySem.W.Frag} {mg : Str → Option Value} {base : Heap} {Lm : LamI} {dp wl cl : Addr} {cells : List Int} {Tl : List (Addr × Str)} (hd : dp ≠ wl ∧ dp ≠ cl ∧ wl ≠ cl) (T : Txt K mg) {fd : FuncData} (Fn : Fun K "_law_dates" "_law_dates" s__law_datesX (He.ga K "_law_dates") fd)
  {fd__law_pick : FuncData} (F__law_pick : Fun K "_law_pick" "_law_pick" s__law_pick (He.ga K "_law_pick") fd__law_pick) (B__law_pick : Binds K fd__law_pick ["_law_draw", "_law_some"] [])
  (G__law_pick : FnOk P w K mg base (L2.CX P w) 3 (He.ga K "_law_pick") fd__law_pick ["_law_draw", "_law_some"] (spD (drawCcL Lm K (He.ga K) dp wl cl cells Tl) 2 (sem__law_pick cells)))
  {fd__law_take : FuncData} (F__law_take : Fun K "_law_take" "_law_take" s__law_take (He.ga K "_law_take") fd__law_take) (B__law_take : Binds K fd__law_take ["_law_draw", "_law_many"] [])
  (G__law_take : FnOk P w K mg base (L2.CX P w) 2 (He.ga K "_law_take") fd__law_take ["_law_draw", "_law_many"] (spD (drawCcL Lm K (He.ga K) dp wl cl cells Tl) 2 (sem__law_take cells)))
  {fd__law_shuffled : FuncData} (F__law_shuffled : Fun K "_law_shuffled" "_law_shuffled" s__law_shuffled (He.ga K "_law_shuffled") fd__law_shuffled) (B__law_shuffled : Binds K fd__law_shuffled ["_law_draw", "_law_some"] [])
  (G__law_shuffled : FnOk P w K mg base (L2.CX P w) 3 (He.ga K "_law_shuffled") fd__law_shuffled ["_law_draw", "_law_some"] (spD (drawCcL Lm K (He.ga K) dp wl cl cells Tl) 2 (sem__law_shuffled cells))) :
  FnOk P w K mg base (L2.CX P w) 4 (He.ga K "_law_dates") fd ["_law_draw", "_law_most"] (spD (drawCcL Lm K (He.ga K) dp wl cl cells Tl) 2 (sem__law_datesX cells)) := by
  have hCK : K = (drawCcL Lm K (He.ga K) dp wl cl cells Tl).K := rfl
  have hcad : (drawCcL Lm K (He.ga K) dp wl cl cells Tl).cad = He.ga K := rfl
  refine fn_body (N := NE__law_datesX) (rd := rd__law_datesX cells) Fn sc__law_datesX rfn__law_datesX fun cdv A outer s H G E hr => ?_
  have nd := sc__law_datesX.nd
  have hK : (cxOf (L2.CX P w) P w K mg base NE__law_datesX "_law_dates" (defScope s__law_datesX) (He.ga K "_law_dates") cdv A outer s H E).K = (fxOf (drawCcL Lm K (He.ga K) dp wl cl cells Tl) G H E).K := hCK
  have tk : Takes (cxOf (L2.CX P w) P w K mg base NE__law_datesX "_law_dates" (defScope s__law_datesX) (He.ga K "_law_dates") cdv A outer s H E) (fxOf (drawCcL Lm K (He.ga K) dp wl cl cells Tl) G H E).wish := takes_of rfl rfl rfl rfl
  have R := drF_ofT (L := Lm) (T := Tl) (G := G) (H := H) (E := E) (K := K) (cad := He.ga K) (cells := cells) hd
  exact (dss_cons (ds_asg (de_call G__law_pick tk (hr.mono (by decide)) rfl T.glo__law_pick F__law_pick.kp B__law_pick .nil DfR.nil (da_cons (de_var 0 (pv 0)) (da_cons (de_lst (da_cons de_int (da_cons de_int (da_cons de_int (da_cons de_int (da_cons de_int da_nil)))))) da_nil))) (dg_name 2 (pg_name (i := 2) nd rfl (.inr rfl))))
    (dss_cons (ds_setLc (i := 3) (own := [("_law_turn", 4)]) (g := gName 4) rfl nd rfl rfl (sw_true rfl rfl rfl (by decide +kernel)) (di_range1 rfl T.free_range (da_cons (de_call G__law_take tk (hr.mono (by decide)) rfl T.glo__law_take F__law_take.kp B__law_take .nil DfR.nil (da_cons (de_var 0 (pv 0)) (da_cons (de_op or_add (od_add hK) (de_var 1 (pv 1)) de_int) da_nil))) da_nil)) (blkOk_by (N := NE__law_datesX) (sc := defScope s__law_datesX) (by decide +kernel)) (gw_name (by decide)) (fun _ _ _ _ _ => pg_name (i := 4) nd rfl (Or.inl rfl)) (fun _ _ _ _ _ => dts_nil) (fun _ _ _ _ _ => (de_call G__law_take takes0 (hr.mono (by decide)) rfl T.glo__law_take F__law_take.kp B__law_take .nil DfR.nil (da_cons (de_var 0 (pv 0)) (da_cons (de_var 2 (pv 2)) da_nil)))))
    (dss_one (ds_ret (de_call G__law_shuffled tk (hr.mono (by decide)) rfl T.glo__law_shuffled F__law_shuffled.kp B__law_shuffled .nil DfR.nil (da_cons (de_var 0 (pv 0)) (da_cons (de_sortSet hK rfl T.free_sorted rfl T.free_set (de_var 3 (pv 3))) da_nil)))))))
theorem dd__law_kinds {P : Program} {w : World} {K : PySem.W.Frag} {mg : Str → Option Value} {base : Heap} {S : Type} {C : Cc S} (hCK : K = C.K) (hcad : C.cad = He.ga K) (T : Txt K mg) {fd : FuncData} (Fn : Fun K "_law_kinds" "_law_kinds" s__law_kinds (He.ga K "_law_kinds") fd)
   :
  FnOk P w K mg base (L2.CX P w) 1 (He.ga K "_law_kinds") fd [] (spD C 0 sem__law_kinds) := by
  refine fn_body (N := NE__law_kinds) (rd := rd__law_kinds) Fn sc__law_kinds rfn__law_kinds fun cdv A outer s H G E hr => ?_
  have nd := sc__law_kinds.nd
  have hK : (cxOf (L2.CX P w) P w K mg base NE__law_kinds "_law_kinds" (defScope s__law_kinds) (He.ga K "_law_kinds") cdv A outer s H E).K = (fxOf C G H E).K := hCK
  have tk : Takes (cxOf (L2.CX P w) P w K mg base NE__law_kinds "_law_kinds" (defScope s__law_kinds) (He.ga K "_law_kinds") cdv A outer s H E) (fxOf C G H E).wish := takes_of rfl rfl rfl rfl
  exact (dss_one (ds_ret (de_lst (da_cons de_str (da_cons de_str (da_cons de_str (da_cons de_str da_nil)))))))
theorem dd__law_odd {P : Program} {w : World} {K : PySem.W.Frag} {mg : Str → Option Value} {base : Heap} {Lm : LamI} {dp wl cl : Addr} {cells : List Int} {Tl : List (Addr × Str)} (hd : dp ≠ wl ∧ dp ≠ cl ∧ wl ≠ cl) (T : Txt K mg) {fd : FuncData} (Fn : Fun K "_law_odd" "_law_odd" s__law_odd (He.ga K "_law_odd") fd)
  {fd__law_pick : FuncData} (F__law_pick : Fun K "_law_pick" "_law_pick" s__law_pick (He.ga K "_law_pick") fd__law_pick) (B__law_pick : Binds K fd__law_pick ["_law_draw", "_law_some"] [])
  (G__law_pick : FnOk P w K mg base (L2.CX P w) 3 (He.ga K "_law_pick") fd__law_pick ["_law_draw", "_law_some"] (spD (drawCcL Lm K (He.ga K) dp wl cl cells Tl) 2 (sem__law_pick cells))) :
  FnOk P w K mg base (L2.CX P w) 4 (He.ga K "_law_odd") fd ["_law_draw"] (spD (drawCcL Lm K (He.ga K) dp wl cl cells Tl) 1 (sem__law_odd cells)) := by
  have hCK : K = (drawCcL Lm K (He.ga K) dp wl cl cells Tl).K := rfl
  have hcad : (drawCcL Lm K (He.ga K) dp wl cl cells Tl).cad = He.ga K := rfl
  refine fn_body (N := NE__law_odd) (rd := rd__law_odd cells) Fn sc__law_odd rfn__law_odd fun cdv A outer s H G E hr => ?_
  have nd := sc__law_odd.nd
  have hK : (cxOf (L2.CX P w) P w K mg base NE__law_odd "_law_odd" (defScope s__law_odd) (He.ga K "_law_odd") cdv A outer s H E).K = (fxOf (drawCcL Lm K (He.ga K) dp wl cl cells Tl) G H E).K := hCK
  have tk : Takes (cxOf (L2.CX P w) P w K mg base NE__law_odd "_law_odd" (defScope s__law_odd) (He.ga K "_law_odd") cdv A outer s H E) (fxOf (drawCcL Lm K (He.ga K) dp wl cl cells Tl) G H E).wish := takes_of rfl rfl rfl rfl
  have R := drF_ofT (L := Lm) (T := Tl) (G := G) (H := H) (E := E) (K := K) (cad := He.ga K) (cells := cells) hd
  exact (dss_one (ds_ret (de_call G__law_pick tk (hr.mono (by decide)) rfl T.glo__law_pick F__law_pick.kp B__law_pick .nil DfR.nil (da_cons (de_var 0 (pv 0)) (da_cons (de_lst (da_cons de_non (da_cons de_str (da_cons de_str (da_cons de_bl (da_cons (de_neg de_int) (da_cons (de_tup da_nil) (da_cons (de_lst da_nil) (da_cons de_dict0 (da_cons (de_tup (da_cons de_int da_nil)) (da_cons (de_lst (da_cons de_str da_nil)) (da_cons (de_dict (pps_cons de_str de_int pps_nil)) (da_cons (de_op op_pow od_pow de_int de_int) da_nil))))))))))))) da_nil)))))
theorem dd__law_bent_dates {P : Program} {w : World} {K : PySem.W.Frag} {mg : Str → Option Value} {base : Heap} {Lm : LamI} {dp wl cl : Addr} {cells : List Int} {Tl : List (Addr × Str)} (hd : dp ≠ wl ∧ dp ≠ cl ∧ wl ≠ cl) (T : Txt K mg) {fd : FuncData} (Fn : Fun K "_law_bent_dates" "_law_bent_dates" s__law_bent_dates (He.ga K "_law_bent_dates") fd)
  {fd__law_pick : FuncData} (F__law_pick : Fun K "_law_pick" "_law_pick" s__law_pick (He.ga K "_law_pick") fd__law_pick) (B__law_pick : Binds K fd__law_pick ["_law_draw", "_law_some"] [])
  (G__law_pick : FnOk P w K mg base (L2.CX P w) 3 (He.ga K "_law_pick") fd__law_pick ["_law_draw", "_law_some"] (spD (drawCcL Lm K (He.ga K) dp wl cl cells Tl) 2 (sem__law_pick cells)))
  {fd__law_take : FuncData} (F__law_take : Fun K "_law_take" "_law_take" s__law_take (He.ga K "_law_take") fd__law_take) (B__law_take : Binds K fd__law_take ["_law_draw", "_law_many"] [])
  (G__law_take : FnOk P w K mg base (L2.CX P w) 2 (He.ga K "_law_take") fd__law_take ["_law_draw", "_law_many"] (spD (drawCcL Lm K (He.ga K) dp wl cl cells Tl) 2 (sem__law_take cells))) :
  FnOk P w K mg base (L2.CX P w) 4 (He.ga K "_law_bent_dates") fd ["_law_draw", "_law_datesx"] (spD (drawCcL Lm K (He.ga K) dp wl cl cells Tl) 2 (sem__law_bent_dates cells)) := by
  have hCK : K = (drawCcL Lm K (He.ga K) dp wl cl cells Tl).K := rfl
  have hcad : (drawCcL Lm K (He.ga K) dp wl cl cells Tl).cad = He.ga K := rfl
  refine fn_body (N := NE__law_bent_dates) (rd := rd__law_bent_dates cells) Fn sc__law_bent_dates rfn__law_bent_dates fun cdv A outer s H G E hr => ?_
  have nd := sc__law_bent_dates.nd
  have hK : (cxOf (L2.CX P w) P w K mg base NE__law_bent_dates "_law_bent_dates" (defScope s__law_bent_dates) (He.ga K "_law_bent_dates") cdv A outer s H E).K = (fxOf (drawCcL Lm K (He.ga K) dp wl cl cells Tl) G H E).K := hCK
  have tk : Takes (cxOf (L2.CX P w) P w K mg base NE__law_bent_dates "_law_bent_dates" (defScope s__law_bent_dates) (He.ga K "_law_bent_dates") cdv A outer s H E) (fxOf (drawCcL Lm K (He.ga K) dp wl cl cells Tl) G H E).wish := takes_of rfl rfl rfl rfl
  have R := drF_ofT (L := Lm) (T := Tl) (G := G) (H := H) (E := E) (K := K) (cad := He.ga K) (cells := cells) hd
  exact (dss_cons (ds_asg (de_call G__law_pick tk (hr.mono (by decide)) rfl T.glo__law_pick F__law_pick.kp B__law_pick .nil DfR.nil (da_cons (de_var 0 (pv 0)) (da_cons (de_lst (da_cons de_non (da_cons de_bl (da_cons (de_neg de_int) (da_cons de_int (da_cons de_str (da_cons (de_tup (da_cons de_int da_nil)) (da_cons (de_lst (da_cons de_int da_nil)) (da_cons (de_op op_pow od_pow de_int de_int) (da_cons de_dict0 (da_cons de_int (da_cons de_int da_nil)))))))))))) da_nil))) (dg_name 2 (pg_name (i := 2) nd rfl (.inl rfl))))
    (dss_cons (ds_par rfl nd rfl rfl (by decide) rfl rfl (da_cons (de_call G__law_take tk (hr.mono (by decide)) rfl T.glo__law_take F__law_take.kp B__law_take .nil DfR.nil (da_cons (de_var 0 (pv 0)) (da_cons (de_op or_add (od_add hK) (de_callB call_len (cd_len hK) rfl T.free_len (by decide +kernel) (da_cons (de_var 1 (pv 1)) da_nil)) de_int) da_nil))) (da_cons (de_call G__law_take tk (hr.mono (by decide)) rfl T.glo__law_take F__law_take.kp B__law_take .nil DfR.nil (da_cons (de_var 0 (pv 0)) (da_cons de_int da_nil))) da_nil)) (by rfl))
    (dss_cons (ds_if (dt_cmp (op_eqD hr.units) (od_eq hK) (de_var 4 (pv 4)) de_int (by rfl)) (dss_one (ds_ret (de_call G__law_pick tk (hr.mono (by decide)) rfl T.glo__law_pick F__law_pick.kp B__law_pick .nil DfR.nil (da_cons (de_var 0 (pv 0)) (da_cons (de_lst (da_cons de_non (da_cons de_int (da_cons de_str (da_cons de_dict0 (da_cons (de_dict (pps_cons de_int de_int pps_nil)) (da_cons de_bl (da_cons (de_listRg rfl rfl T.free_list rfl T.free_range de_int) (da_cons (de_callTy call_tuple_of (cd_tuple hK) rfl T.free_tuple (by decide +kernel) (da_cons (de_var 1 (pv 1)) da_nil)) da_nil))))))))) da_nil))))) dss_nil)
    (dss_cons (ds_if (dt_cmp (op_eqD hr.units) (od_eq hK) (de_var 4 (pv 4)) de_int (by rfl)) (dss_one (ds_ret (de_op or_add (od_add hK) (de_op or_add (od_add hK) (de_slice hK (de_var 1 (pv 1)) do_none (do_some (de_var 3 (pv 3)))) (de_slice hK (de_var 1 (pv 1)) do_none (do_some de_int))) (de_slice hK (de_var 1 (pv 1)) (do_some (de_var 3 (pv 3))) do_none)))) dss_nil)
    (dss_one (ds_ret (de_op or_add (od_add hK) (de_op or_add (od_add hK) (de_slice hK (de_var 1 (pv 1)) do_none (do_some (de_var 3 (pv 3)))) (de_lst (da_cons (de_var 2 (pv 2)) da_nil))) (de_slice hK (de_var 1 (pv 1)) (do_some (de_var 3 (pv 3))) do_none))))))))
theorem dd__law_are_dates {P : Program} {w : World} {K : PySem.W.Frag} {mg : Str → Option Value} {base : Heap} {S : Type} {C : Cc S} (hCK : K = C.K) (hcad : C.cad = He.ga K) (T : Txt K mg) {fd : FuncData} (Fn : Fun K "_law_are_dates" "_law_are_dates" s__law_are_dates (He.ga K "_law_are_dates") fd)
   :
  FnOk P w K mg base (L2.CX P w) 1 (He.ga K "_law_are_dates") fd ["_law_thing"] (spD C 1 (sem__law_are_dates cs)) := by
  refine fn_body (N := NE__law_are_dates) (rd := rd__law_are_dates cs) Fn sc__law_are_dates rfn__law_are_dates fun cdv A outer s H G E hr => ?_
  have nd := sc__law_are_dates.nd
  have hK : (cxOf (L2.CX P w) P w K mg base NE__law_are_dates "_law_are_dates" (defScope s__law_are_dates) (He.ga K "_law_are_dates") cdv A outer s H E).K = (fxOf C G H E).K := hCK
  have tk : Takes (cxOf (L2.CX P w) P w K mg base NE__law_are_dates "_law_are_dates" (defScope s__law_are_dates) (He.ga K "_law_are_dates") cdv A outer s H E) (fxOf C G H E).wish := takes_of rfl rfl rfl rfl
  exact (dss_cons (ds_if (PW.pt (dw_or (dt_not (dt_val (de_isi2 hK (T.kit_two_list_tuple hCK hcad) (.ty _) (.ty _) (de_var 0 (pv 0)) (pe_bltn (by rfl) T.free_list (by decide +kernel) (v := .ty "list") rfl) (pe_bltn (by rfl) T.free_tuple (by decide +kernel) (v := .ty "tuple") rfl) rfl T.free_isinstance))) (dw_or1 (dt_cmp op_gt od_gt (de_callB call_len (cd_len hK) rfl T.free_len (by decide +kernel) (da_cons (de_var 0 (pv 0)) da_nil)) de_int (by rfl))))) (dss_one (ds_ret de_bl)) dss_nil)
    (dss_cons (ds_for (passes_of rfl) rfl (di_enum hK rfl T.free_enumerate (da_cons (de_var 0 (pv 0)) da_nil)) (dg_tup hK rfl (dgs_cons (dg_name 1 (pg_name (i := 1) nd rfl (.inl rfl))) (dgs_cons (dg_name 2 (pg_name (i := 2) nd rfl (.inl rfl))) dgs_nil))) (dss_one (ds_if (PW.pt (dw_or (dt_not (dt_val (de_isi hK (T.kit_ty_int hCK hcad) (.ty _) (de_var 2 (pv 2)) (pe_bltn (by rfl) T.free_int (by decide +kernel) (v := .ty "int") rfl) rfl T.free_isinstance))) (dw_or (dt_val (de_isi hK (T.kit_ty_bool hCK hcad) (.ty _) (de_var 2 (pv 2)) (pe_bltn (by rfl) T.free_bool (by decide +kernel) (v := .ty "bool") rfl) rfl T.free_isinstance)) (dw_or (dt_not (dt_chain op_le od_le op_le od_le de_int (de_var 2 (pv 2)) de_int)) (dw_or1 (dt_cmp op_in_seq (od_in false hK) (de_var 2 (pv 2)) (de_slice hK (de_callTy call_list_of (cd_list hK) rfl T.free_list (by decide +kernel) (da_cons (de_var 0 (pv 0)) da_nil)) do_none (do_some (de_var 1 (pv 1)))) (by rfl))))))) (dss_one (ds_ret de_bl)) dss_nil)))
    (dss_one (ds_ret de_bl))))
theorem dd__law_key {P : Program} {w : World} {K : PySem.W.Frag} {mg : Str → Option Value} {base : Heap} {S : Type} {C : Cc S} (hCK : K = C.K) (hcad : C.cad = He.ga K) (T : Txt K mg) {fd : FuncData} (Fn : Fun K "_law_key" "_law_key" s__law_key (He.ga K "_law_key") fd)
   :
  FnOk P w K mg base (L2.CX P w) 1 (He.ga K "_law_key") fd ["_law_kindx", "_law_datesx", "_law_datex"] (spD C 3 sem__law_key) := by
  refine fn_body (N := NE__law_key) (rd := rd__law_key) Fn sc__law_key rfn__law_key fun cdv A outer s H G E hr => ?_
  have nd := sc__law_key.nd
  have hK : (cxOf (L2.CX P w) P w K mg base NE__law_key "_law_key" (defScope s__law_key) (He.ga K "_law_key") cdv A outer s H E).K = (fxOf C G H E).K := hCK
  have tk : Takes (cxOf (L2.CX P w) P w K mg base NE__law_key "_law_key" (defScope s__law_key) (He.ga K "_law_key") cdv A outer s H E) (fxOf C G H E).wish := takes_of rfl rfl rfl rfl
  exact (dss_cons (ds_if (dt_cmp (op_eqD hr.units) (od_eq hK) (de_var 0 (pv 0)) de_str (by rfl)) (dss_one (ds_ret (de_var 2 (pv 2)))) dss_nil)
    (dss_cons (ds_if (dt_cmp (op_eqD hr.units) (od_eq hK) (de_var 0 (pv 0)) de_str (by rfl)) (dss_one (ds_ret (de_op op_sub od_sub (de_var 2 (pv 2)) (de_callB (cr_min rfl) (cd_min hK) rfl T.free_min (by decide +kernel) (da_cons (de_callTy call_list_of (cd_list hK) rfl T.free_list (by decide +kernel) (da_cons (de_var 1 (pv 1)) da_nil)) da_nil))))) dss_nil)
    (dss_one (ds_ret (de_callB call_len (cd_len hK) rfl T.free_len (by decide +kernel) (da_cons (de_lc (own := [("_law_one", 3)]) (g := gName 3) rfl nd (di_seq hK (de_var 1 (pv 1))) (blkOk_by (N := NE__law_key) (sc := defScope s__law_key) (by decide +kernel)) (gw_name (by decide)) (fun _ _ _ _ _ => pg_name (i := 3) nd rfl (Or.inl rfl)) (fun _ _ _ _ _ => (dts_one (dt_iteT (dt_cmp (op_eqD hr.units) (od_eq hK) (de_var 0 (pv 0)) de_str (by rfl)) (dt_cmp op_lt od_lt (de_var 3 (pv 3)) (de_var 2 (pv 2)) (by rfl)) (dt_cmp op_gt od_gt (de_var 3 (pv 3)) (de_var 2 (pv 2)) (by rfl))))) (fun _ _ _ _ _ => (de_var 3 (pv 3)))) da_nil))))))
theorem dd__law_due {P : Program} {w : World} {K : PySem.W.Frag} {mg : Str → Option Value} {base : Heap} {S : Type} {C : Cc S} (hCK : K = C.K) (hcad : C.cad = He.ga K) (T : Txt K mg) {fd : FuncData} (Fn : Fun K "_law_due" "_law_due" s__law_due (He.ga K "_law_due") fd)
  {fd__law_kinds : FuncData} (F__law_kinds : Fun K "_law_kinds" "_law_kinds" s__law_kinds (He.ga K "_law_kinds") fd__law_kinds) (B__law_kinds : Binds K fd__law_kinds [] [])
  (G__law_kinds : FnOk P w K mg base (L2.CX P w) 1 (He.ga K "_law_kinds") fd__law_kinds [] (spD C 0 sem__law_kinds))
  {fd__law_are_dates : FuncData} (F__law_are_dates : Fun K "_law_are_dates" "_law_are_dates" s__law_are_dates (He.ga K "_law_are_dates") fd__law_are_dates) (B__law_are_dates : Binds K fd__law_are_dates ["_law_thing"] [])
  (G__law_are_dates : FnOk P w K mg base (L2.CX P w) 1 (He.ga K "_law_are_dates") fd__law_are_dates ["_law_thing"] (spD C 1 (sem__law_are_dates cs)))
  {fd__law_key : FuncData} (F__law_key : Fun K "_law_key" "_law_key" s__law_key (He.ga K "_law_key") fd__law_key) (B__law_key : Binds K fd__law_key ["_law_kindx", "_law_datesx", "_law_datex"] [])
  (G__law_key : FnOk P w K mg base (L2.CX P w) 1 (He.ga K "_law_key") fd__law_key ["_law_kindx", "_law_datesx", "_law_datex"] (spD C 3 sem__law_key)) :
  FnG P w K mg base (L2.CX P w) 2 (He.ga K "_law_due") fd ["_law_kindx", "_law_datesx", "_law_datex"] (spD C 3 (sem__law_due cs)) := by
  refine fn_bodyG (N := NE__law_due) (rd := rd__law_due cs) Fn sc__law_due rfn__law_due fun cdv A outer s H G E hgd0 hr => ?_
  have hgd : (cxOf (L2.CX P w) P w K mg base NE__law_due "_law_due" (defScope s__law_due) (He.ga K "_law_due") cdv A outer s H E).A.guards = some [] := hgd0
  have nd := sc__law_due.nd
  have hK : (cxOf (L2.CX P w) P w K mg base NE__law_due "_law_due" (defScope s__law_due) (He.ga K "_law_due") cdv A outer s H E).K = (fxOf C G H E).K := hCK
  have tk : Takes (cxOf (L2.CX P w) P w K mg base NE__law_due "_law_due" (defScope s__law_due) (He.ga K "_law_due") cdv A outer s H E) (fxOf C G H E).wish := takes_of rfl rfl rfl rfl
  exact (dss_cons (ds_if (PW.pt (dw_or (dt_not (dt_val (de_isi hK (T.kit_ty_str hCK hcad) (.ty _) (de_var 0 (pv 0)) (pe_bltn (by rfl) T.free_str (by decide +kernel) (v := .ty "str") rfl) rfl T.free_isinstance))) (dw_or1 (dt_cmp op_notIn_seq (od_in true hK) (de_var 0 (pv 0)) (de_call0 G__law_kinds tk (hr.mono (by decide)) rfl T.glo__law_kinds F__law_kinds.kp B__law_kinds .nil DfR.nil) (by rfl))))) (dss_one (ds_ret (de_tup (da_cons de_str (da_cons (de_callB (call_repr hgd (u70 hr)) (cd_repr hK) rfl T.free_repr (by decide +kernel) (da_cons (de_var 0 (pv 0)) da_nil)) da_nil))))) dss_nil)
    (dss_cons (ds_if (dt_not (dt_val (de_call G__law_are_dates tk (hr.mono (by decide)) rfl T.glo__law_are_dates F__law_are_dates.kp B__law_are_dates .nil DfR.nil (da_cons (de_var 1 (pv 1)) da_nil)))) (dss_one (ds_ret (de_tup (da_cons de_str (da_cons de_str da_nil))))) dss_nil)
    (dss_cons (ds_if (PW.pt (dw_or (dt_not (dt_val (de_isi hK (T.kit_ty_int hCK hcad) (.ty _) (de_var 2 (pv 2)) (pe_bltn (by rfl) T.free_int (by decide +kernel) (v := .ty "int") rfl) rfl T.free_isinstance))) (dw_or (dt_val (de_isi hK (T.kit_ty_bool hCK hcad) (.ty _) (de_var 2 (pv 2)) (pe_bltn (by rfl) T.free_bool (by decide +kernel) (v := .ty "bool") rfl) rfl T.free_isinstance)) (dw_or1 (dt_cmp op_notIn_seq (od_in true hK) (de_var 2 (pv 2)) (de_var 1 (pv 1)) (by rfl)))))) (dss_one (ds_ret (de_tup (da_cons de_str (da_cons (de_callB (call_repr hgd (u70 hr)) (cd_repr hK) rfl T.free_repr (by decide +kernel) (da_cons (de_var 2 (pv 2)) da_nil)) da_nil))))) dss_nil)
    (dss_one (ds_ret (de_tup (da_cons de_str (da_cons (de_callB (call_repr hgd (u70 hr)) (cd_repr hK) rfl T.free_repr (by decide +kernel) (da_cons (de_call G__law_key tk (hr.mono (by decide)) rfl T.glo__law_key F__law_key.kp B__law_key .nil DfR.nil (da_cons (de_var 0 (pv 0)) (da_cons (de_var 1 (pv 1)) (da_cons (de_var 2 (pv 2)) da_nil)))) da_nil)) da_nil))))))))
theorem dr__law_told {P : Program} {w : World} {K : PySem.W.Frag} {mg : Str → Option Value} {base : Heap} {S : Type} {C : Cc S} (hCK : K = C.K) (hcad : C.cad = He.ga K) (T : Txt K mg) {g : Addr} {A : Around} {outer : List PySem.Env} {s : Shared} {H : Hp} {k : Nat} (cdv : Value) (hr : Room k (A.deeper (envOfC "_law_told" (defScope s__law_told) s.heap.objs.size g cdv))) (hgd0 : A.guards = some []) (G1 H1 : Hp) :
  PSs (cxOf C8.CX0 P w K mg base N__law_told "_law_told" (defScope s__law_told) g cdv A outer s H C8.E0).nox ((defBody s__law_told).drop 2) (tS (fxOf C G1 H1 C8.E0) (rd__law_told cs)) := by
  have nd := sc__law_told.nd
  have hK : (cxOf C8.CX0 P w K mg base N__law_told "_law_told" (defScope s__law_told) g cdv A outer s H C8.E0).nox.K = (fxOf C G1 H1 C8.E0).K := hCK
  have hgd : (cxOf C8.CX0 P w K mg base N__law_told "_law_told" (defScope s__law_told) g cdv A outer s H C8.E0).nox.A.guards = some [] := hgd0
  exact (dss_cons (ds_if (dt_cmp op_isN od_isX (de_var 2 (pv 2)) de_non (by rfl)) (dss_one (ds_ret (de_tup (da_cons de_str (da_cons (de_callB (call_repr hgd (u70 hr)) (cd_repr hK) rfl T.free_repr (by decide +kernel) (da_cons (de_ixO (pv 1) de_int) da_nil)) da_nil))))) dss_nil)
    (dss_cons (ds_asg (de_lst (da_cons (de_isiX hK (T.kit_xty_BadKind hCK hcad) (T.kx_BadKind hCK hcad) (.own _) (de_var 2 (pv 2)) (pe_glob rfl T.glo_BadKind rfl) rfl T.free_isinstance) (da_cons (de_isiX hK (T.kit_xty_BadDates hCK hcad) (T.kx_BadDates hCK hcad) (.own _) (de_var 2 (pv 2)) (pe_glob rfl T.glo_BadDates rfl) rfl T.free_isinstance) (da_cons (de_isiX hK (T.kit_xty_NoDate hCK hcad) (T.kx_NoDate hCK hcad) (.own _) (de_var 2 (pv 2)) (pe_glob rfl T.glo_NoDate rfl) rfl T.free_isinstance) da_nil)))) (dg_name 3 (pg_name (i := 3) nd rfl (.inl rfl))))
    (dss_cons (ds_if (PW.pt (dw_or (dt_cmp (op_neD hr.units) (od_ne hK) (de_cntB (de_var 3 (pv 3)) de_bl) de_int (by rfl)) (dw_or1 (dt_not (dt_val (de_isiX hK (T.kit_xty_ValueError hCK hcad) (T.kx_ValueError hCK hcad) (.ty _) (de_var 2 (pv 2)) (pe_bltn (by rfl) T.free_ValueError (by decide +kernel) (v := .ty "ValueError") rfl) rfl T.free_isinstance)))))) (dss_one (ds_ret (de_tup (da_cons de_str (da_cons de_str da_nil))))) dss_nil)
    (dss_cons (ds_if (dt_val (de_ix ix_seq (od_ix hK) (de_var 3 (pv 3)) de_int (fun _ _ => rfl))) (dss_one (ds_ret (de_tup (da_cons de_str (da_cons (de_callB (call_repr hgd (u70 hr)) (cd_repr hK) rfl T.free_repr (by decide +kernel) (da_cons (de_xf hK (xf_cast hCK hcad T.xf_kind) (de_var 2 (pv 2))) da_nil)) da_nil))))) dss_nil)
    (dss_one (ds_ret (de_if (dt_val (de_ix ix_seq (od_ix hK) (de_var 3 (pv 3)) de_int (fun _ _ => rfl))) (de_tup (da_cons de_str (da_cons de_str da_nil))) (de_tup (da_cons de_str (da_cons (de_callB (call_repr hgd (u70 hr)) (cd_repr hK) rfl T.free_repr (by decide +kernel) (da_cons (de_xf hK (xf_cast hCK hcad T.xf_date) (de_var 2 (pv 2))) da_nil)) da_nil))))))))))
theorem dd_is_kind {P : Program} {w : World} {K : PySem.W.Frag} {mg : Str → Option Value} {base : Heap} {S : Type} {C : Cc S} (hCK : K = C.K) (hcad : C.cad = He.ga K) (T : Txt K mg) {fd : FuncData} (Fn : Fun K "is_kind" "is_kind" s_is_kind (He.ga K "is_kind") fd)
   :
  FnOk P w K mg base (L2.CX P w) 1 (He.ga K "is_kind") fd ["thing"] (spD C 1 (sem_is_kind cs)) := by
  refine fn_body (N := NE_is_kind) (rd := rd_is_kind cs) Fn sc_is_kind rfn_is_kind fun cdv A outer s H G E hr => ?_
  have nd := sc_is_kind.nd
  have hK : (cxOf (L2.CX P w) P w K mg base NE_is_kind "is_kind" (defScope s_is_kind) (He.ga K "is_kind") cdv A outer s H E).K = (fxOf C G H E).K := hCK
  have tk : Takes (cxOf (L2.CX P w) P w K mg base NE_is_kind "is_kind" (defScope s_is_kind) (He.ga K "is_kind") cdv A outer s H E) (fxOf C G H E).wish := takes_of rfl rfl rfl rfl
  exact (dss_one (ds_ret (de_and hK (de_isi hK (T.kit_ty_str hCK hcad) (.ty _) (de_var 0 (pv 0)) (pe_bltn (by rfl) T.free_str (by decide +kernel) (v := .ty "str") rfl) rfl T.free_isinstance) (de_one (de_cmp op_in_seq (od_in false hK) (de_var 0 (pv 0)) (de_gtup (ss := (["date", "number", "age", "left"] : List Str)) hK rfl T.glo_KINDS T.gtup_KINDS) (by rfl))))))
theorem dd_BadKind___init__ {P : Program} {w : World} {K : PySem.W.Frag} {mg : Str → Option Value} {base : Heap} (T : Txt K mg) {fd : FuncData} (Fn : Fun K "__init__" "BadKind.__init__" s_BadKind___init__ (He.ma K (He.ga K "BadKind") "__init__") fd) : FnOk P w K mg base (L2.CX P w) 1 (He.ma K (He.ga K "BadKind") "__init__") fd ["self", "kind"] (spXI (He.ga K "BadKind") "kind") :=
  fn_xinit Fn sc_BadKind___init__ rfl (by decide) T.oex_BadKind T.xno_BadKind_kind fun cdv A outer s H E => pss_one (ps_ost (pv 0) (pv 1))
theorem dd_need_kindX {P : Program} {w : World} {K : PySem.W.Frag} {mg : Str → Option Value} {base : Heap} {S : Type} {C : Cc S} (hCK : K = C.K) (hcad : C.cad = He.ga K) (T : Txt K mg) {fd : FuncData} (Fn : Fun K "need_kind" "need_kind" s_need_kindX (He.ga K "need_kind") fd)
  {fd_is_kind : FuncData} (F_is_kind : Fun K "is_kind" "is_kind" s_is_kind (He.ga K "is_kind") fd_is_kind) (B_is_kind : Binds K fd_is_kind ["thing"] [])
  (G_is_kind : FnOk P w K mg base (L2.CX P w) 1 (He.ga K "is_kind") fd_is_kind ["thing"] (spD C 1 (sem_is_kind cs)))
  {fd_BadKind___init__ : FuncData} (F_BadKind___init__ : Fun K "__init__" "BadKind.__init__" s_BadKind___init__ (He.ma K (He.ga K "BadKind") "__init__") fd_BadKind___init__) (B_BadKind___init__ : Binds K fd_BadKind___init__ ["self", "kind"] [])
  (G_BadKind___init__ : FnOk P w K mg base (L2.CX P w) 1 (He.ma K (He.ga K "BadKind") "__init__") fd_BadKind___init__ ["self", "kind"] (spXI (He.ga K "BadKind") "kind")) :
  FnOk P w K mg base (L2.CX P w) 3 (He.ga K "need_kind") fd ["kind"] (spD C 1 (sem_need_kindX cs)) := by
  refine fn_body (N := NE_need_kindX) (rd := rd_need_kindX cs) Fn sc_need_kindX rfn_need_kindX fun cdv A outer s H G E hr => ?_
  have nd := sc_need_kindX.nd
  have hK : (cxOf (L2.CX P w) P w K mg base NE_need_kindX "need_kind" (defScope s_need_kindX) (He.ga K "need_kind") cdv A outer s H E).K = (fxOf C G H E).K := hCK
  have tk : Takes (cxOf (L2.CX P w) P w K mg base NE_need_kindX "need_kind" (defScope s_need_kindX) (He.ga K "need_kind") cdv A outer s H E) (fxOf C G H E).wish := takes_of rfl rfl rfl rfl
  exact (dss_one (ds_if (dt_not (dt_val (de_call G_is_kind tk (hr.mono (by decide)) rfl T.glo_is_kind F_is_kind.kp B_is_kind .nil DfR.nil (da_cons (de_var 0 (pv 0)) da_nil)))) (dss_one (ds_raise (congrFun hcad "BadKind") T.oex_BadKind T.ini_BadKind T.tin_BadKind G_BadKind___init__ (hr.mono (by decide)) B_BadKind___init__ (passes_call takes0 fun _ _ _ _ h => h.elim) rfl T.glo_BadKind rfl tk (de_var 0 (pv 0)))) dss_nil))
theorem dd_is_list {P : Program} {w : World} {K : PySem.W.Frag} {mg : Str → Option Value} {base : Heap} {S : Type} {C : Cc S} (hCK : K = C.K) (hcad : C.cad = He.ga K) (T : Txt K mg) {fd : FuncData} (Fn : Fun K "is_list" "is_list" s_is_list (He.ga K "is_list") fd)
   :
  FnOk P w K mg base (L2.CX P w) 1 (He.ga K "is_list") fd ["thing"] (spD C 1 (sem_is_list cs)) := by
  refine fn_body (N := NE_is_list) (rd := rd_is_list cs) Fn sc_is_list rfn_is_list fun cdv A outer s H G E hr => ?_
  have nd := sc_is_list.nd
  have hK : (cxOf (L2.CX P w) P w K mg base NE_is_list "is_list" (defScope s_is_list) (He.ga K "is_list") cdv A outer s H E).K = (fxOf C G H E).K := hCK
  have tk : Takes (cxOf (L2.CX P w) P w K mg base NE_is_list "is_list" (defScope s_is_list) (He.ga K "is_list") cdv A outer s H E) (fxOf C G H E).wish := takes_of rfl rfl rfl rfl
  exact (dss_one (ds_ret (de_isi2 hK (T.kit_two_list_tuple hCK hcad) (.ty _) (.ty _) (de_var 0 (pv 0)) (pe_bltn (by rfl) T.free_list (by decide +kernel) (v := .ty "list") rfl) (pe_bltn (by rfl) T.free_tuple (by decide +kernel) (v := .ty "tuple") rfl) rfl T.free_isinstance)))
theorem dd_is_number {P : Program} {w : World} {K : PySem.W.Frag} {mg : Str → Option Value} {base : Heap} {S : Type} {C : Cc S} (hCK : K = C.K) (hcad : C.cad = He.ga K) (T : Txt K mg) {fd : FuncData} (Fn : Fun K "is_number" "is_number" s_is_number (He.ga K "is_number") fd)
   :
  FnOk P w K mg base (L2.CX P w) 1 (He.ga K "is_number") fd ["thing"] (spD C 1 (sem_is_number cs)) := by
  refine fn_body (N := NE_is_number) (rd := rd_is_number cs) Fn sc_is_number rfn_is_number fun cdv A outer s H G E hr => ?_
  have nd := sc_is_number.nd
  have hK : (cxOf (L2.CX P w) P w K mg base NE_is_number "is_number" (defScope s_is_number) (He.ga K "is_number") cdv A outer s H E).K = (fxOf C G H E).K := hCK
  have tk : Takes (cxOf (L2.CX P w) P w K mg base NE_is_number "is_number" (defScope s_is_number) (He.ga K "is_number") cdv A outer s H E) (fxOf C G H E).wish := takes_of rfl rfl rfl rfl
  exact (dss_one (ds_ret (de_and hK (de_isi hK (T.kit_ty_int hCK hcad) (.ty _) (de_var 0 (pv 0)) (pe_bltn (by rfl) T.free_int (by decide +kernel) (v := .ty "int") rfl) rfl T.free_isinstance) (de_one (de_not hK (de_isi hK (T.kit_ty_bool hCK hcad) (.ty _) (de_var 0 (pv 0)) (pe_bltn (by rfl) T.free_bool (by decide +kernel) (v := .ty "bool") rfl) rfl T.free_isinstance))))))
theorem dd_are_different {P : Program} {w : World} {K : PySem.W.Frag} {mg : Str → Option Value} {base : Heap} {S : Type} {C : Cc S} (hCK : K = C.K) (hcad : C.cad = He.ga K) (T : Txt K mg) {fd : FuncData} (Fn : Fun K "are_different" "are_different" s_are_different (He.ga K "are_different") fd)
  {fd_is_list : FuncData} (F_is_list : Fun K "is_list" "is_list" s_is_list (He.ga K "is_list") fd_is_list) (B_is_list : Binds K fd_is_list ["thing"] [])
  (G_is_list : FnOk P w K mg base (L2.CX P w) 1 (He.ga K "is_list") fd_is_list ["thing"] (spD C 1 (sem_is_list cs)))
  {fd_is_number : FuncData} (F_is_number : Fun K "is_number" "is_number" s_is_number (He.ga K "is_number") fd_is_number) (B_is_number : Binds K fd_is_number ["thing"] [])
  (G_is_number : FnOk P w K mg base (L2.CX P w) 1 (He.ga K "is_number") fd_is_number ["thing"] (spD C 1 (sem_is_number cs))) :
  FnOk P w K mg base (L2.CX P w) 2 (He.ga K "are_different") fd ["thing", "least", "most"] (spD C 3 (sem_are_different cs)) := by
  refine fn_body (N := NE_are_different) (rd := rd_are_different cs) Fn sc_are_different rfn_are_different fun cdv A outer s H G E hr => ?_
  have nd := sc_are_different.nd
  have hK : (cxOf (L2.CX P w) P w K mg base NE_are_different "are_different" (defScope s_are_different) (He.ga K "are_different") cdv A outer s H E).K = (fxOf C G H E).K := hCK
  have tk : Takes (cxOf (L2.CX P w) P w K mg base NE_are_different "are_different" (defScope s_are_different) (He.ga K "are_different") cdv A outer s H E) (fxOf C G H E).wish := takes_of rfl rfl rfl rfl
  exact (dss_cons (ds_if (PW.pt (dw_or (dt_not (dt_val (de_call G_is_list tk (hr.mono (by decide)) rfl T.glo_is_list F_is_list.kp B_is_list .nil DfR.nil (da_cons (de_var 0 (pv 0)) da_nil)))) (dw_or1 (dt_not (dt_val (de_callB (cr_all rfl) (cd_all hK) rfl T.free_all (by decide +kernel) (da_cons (de_lc (own := [("item", 3)]) (g := gName 3) rfl nd (di_seq hK (de_var 0 (pv 0))) (blkOk_by (N := NE_are_different) (sc := defScope s_are_different) (by decide +kernel)) (gw_name (by decide)) (fun _ _ _ _ _ => pg_name (i := 3) nd rfl (Or.inl rfl)) (fun _ _ _ _ _ => dts_nil) (fun _ _ _ _ _ => (de_and hK (de_call G_is_number takes0 (hr.mono (by decide)) rfl T.glo_is_number F_is_number.kp B_is_number .nil DfR.nil (da_cons (de_var 3 (pv 3)) da_nil)) (de_one (de_chain op_le od_le op_le od_le (de_var 1 (pv 1)) (de_var 3 (pv 3)) (de_var 2 (pv 2))))))) da_nil))))))) (dss_one (ds_ret de_bl)) dss_nil)
    (dss_one (ds_ret (de_cmp (op_eqD hr.units) (od_eq hK) (de_lenSet hK rfl T.free_len rfl T.free_set (de_callTy call_list_of (cd_list hK) rfl T.free_list (by decide +kernel) (da_cons (de_var 0 (pv 0)) da_nil))) (de_callB call_len (cd_len hK) rfl T.free_len (by decide +kernel) (da_cons (de_var 0 (pv 0)) da_nil)) (by rfl)))))
theorem dd_are_dates {P : Program} {w : World} {K : PySem.W.Frag} {mg : Str → Option Value} {base : Heap} {S : Type} {C : Cc S} (hCK : K = C.K) (hcad : C.cad = He.ga K) (T : Txt K mg) {fd : FuncData} (Fn : Fun K "are_dates" "are_dates" s_are_dates (He.ga K "are_dates") fd)
  {fd_is_list : FuncData} (F_is_list : Fun K "is_list" "is_list" s_is_list (He.ga K "is_list") fd_is_list) (B_is_list : Binds K fd_is_list ["thing"] [])
  (G_is_list : FnOk P w K mg base (L2.CX P w) 1 (He.ga K "is_list") fd_is_list ["thing"] (spD C 1 (sem_is_list cs)))
  {fd_are_different : FuncData} (F_are_different : Fun K "are_different" "are_different" s_are_different (He.ga K "are_different") fd_are_different) (B_are_different : Binds K fd_are_different ["thing", "least", "most"] [])
  (G_are_different : FnOk P w K mg base (L2.CX P w) 2 (He.ga K "are_different") fd_are_different ["thing", "least", "most"] (spD C 3 (sem_are_different cs))) :
  FnOk P w K mg base (L2.CX P w) 3 (He.ga K "are_dates") fd ["thing"] (spD C 1 (sem_are_dates cs)) := by
  refine fn_body (N := NE_are_dates) (rd := rd_are_dates cs) Fn sc_are_dates rfn_are_dates fun cdv A outer s H G E hr => ?_
  have nd := sc_are_dates.nd
  have hK : (cxOf (L2.CX P w) P w K mg base NE_are_dates "are_dates" (defScope s_are_dates) (He.ga K "are_dates") cdv A outer s H E).K = (fxOf C G H E).K := hCK
  have tk : Takes (cxOf (L2.CX P w) P w K mg base NE_are_dates "are_dates" (defScope s_are_dates) (He.ga K "are_dates") cdv A outer s H E) (fxOf C G H E).wish := takes_of rfl rfl rfl rfl
  exact (dss_one (ds_ret (de_and hK (de_call G_is_list tk (hr.mono (by decide)) rfl T.glo_is_list F_is_list.kp B_is_list .nil DfR.nil (da_cons (de_var 0 (pv 0)) da_nil)) (de_and hK (de_cmp op_le od_le (de_callB call_len (cd_len hK) rfl T.free_len (by decide +kernel) (da_cons (de_var 0 (pv 0)) da_nil)) (de_gint rfl T.int_MOST_DATES) (by rfl)) (de_one (de_call G_are_different tk (hr.mono (by decide)) rfl T.glo_are_different F_are_different.kp B_are_different .nil DfR.nil (da_cons (de_var 0 (pv 0)) (da_cons de_int (da_cons (de_gint rfl T.int_LAST_DATE) da_nil)))))))))
theorem dd_need_datesX {P : Program} {w : World} {K : PySem.W.Frag} {mg : Str → Option Value} {base : Heap} {S : Type} {C : Cc S} (hCK : K = C.K) (hcad : C.cad = He.ga K) (T : Txt K mg) {fd : FuncData} (Fn : Fun K "need_dates" "need_dates" s_need_datesX (He.ga K "need_dates") fd)
  {fd_are_dates : FuncData} (F_are_dates : Fun K "are_dates" "are_dates" s_are_dates (He.ga K "are_dates") fd_are_dates) (B_are_dates : Binds K fd_are_dates ["thing"] [])
  (G_are_dates : FnOk P w K mg base (L2.CX P w) 3 (He.ga K "are_dates") fd_are_dates ["thing"] (spD C 1 (sem_are_dates cs))) :
  FnOk P w K mg base (L2.CX P w) 4 (He.ga K "need_dates") fd ["dates"] (spD C 1 (sem_need_datesX cs)) := by
  refine fn_body (N := NE_need_datesX) (rd := rd_need_datesX cs) Fn sc_need_datesX rfn_need_datesX fun cdv A outer s H G E hr => ?_
  have nd := sc_need_datesX.nd
  have hK : (cxOf (L2.CX P w) P w K mg base NE_need_datesX "need_dates" (defScope s_need_datesX) (He.ga K "need_dates") cdv A outer s H E).K = (fxOf C G H E).K := hCK
  have tk : Takes (cxOf (L2.CX P w) P w K mg base NE_need_datesX "need_dates" (defScope s_need_datesX) (He.ga K "need_dates") cdv A outer s H E) (fxOf C G H E).wish := takes_of rfl rfl rfl rfl
  exact (dss_one (ds_if (dt_not (dt_val (de_call G_are_dates tk (hr.mono (by decide)) rfl T.glo_are_dates F_are_dates.kp B_are_dates .nil DfR.nil (da_cons (de_var 0 (pv 0)) da_nil)))) (dss_one (ds_raise0 (congrFun hcad "BadDates") T.exc_BadDates.1 T.glo_BadDates T.exc_BadDates.2 T.rai_BadDates.1 T.rai_BadDates.2 rfl rfl tk)) dss_nil))
theorem dd_NoDate___init__ {P : Program} {w : World} {K : PySem.W.Frag} {mg : Str → Option Value} {base : Heap} (T : Txt K mg) {fd : FuncData} (Fn : Fun K "__init__" "NoDate.__init__" s_NoDate___init__ (He.ma K (He.ga K "NoDate") "__init__") fd) : FnOk P w K mg base (L2.CX P w) 1 (He.ma K (He.ga K "NoDate") "__init__") fd ["self", "date"] (spXI (He.ga K "NoDate") "date") :=
  fn_xinit Fn sc_NoDate___init__ rfl (by decide) T.oex_NoDate T.xno_NoDate_date fun cdv A outer s H E => pss_one (ps_ost (pv 0) (pv 1))
theorem dd_need_dateX {P : Program} {w : World} {K : PySem.W.Frag} {mg : Str → Option Value} {base : Heap} {S : Type} {C : Cc S} (hCK : K = C.K) (hcad : C.cad = He.ga K) (T : Txt K mg) {fd : FuncData} (Fn : Fun K "need_date" "need_date" s_need_dateX (He.ga K "need_date") fd)
  {fd_is_number : FuncData} (F_is_number : Fun K "is_number" "is_number" s_is_number (He.ga K "is_number") fd_is_number) (B_is_number : Binds K fd_is_number ["thing"] [])
  (G_is_number : FnOk P w K mg base (L2.CX P w) 1 (He.ga K "is_number") fd_is_number ["thing"] (spD C 1 (sem_is_number cs)))
  {fd_NoDate___init__ : FuncData} (F_NoDate___init__ : Fun K "__init__" "NoDate.__init__" s_NoDate___init__ (He.ma K (He.ga K "NoDate") "__init__") fd_NoDate___init__) (B_NoDate___init__ : Binds K fd_NoDate___init__ ["self", "date"] [])
  (G_NoDate___init__ : FnOk P w K mg base (L2.CX P w) 1 (He.ma K (He.ga K "NoDate") "__init__") fd_NoDate___init__ ["self", "date"] (spXI (He.ga K "NoDate") "date")) :
  FnOk P w K mg base (L2.CX P w) 3 (He.ga K "need_date") fd ["dates", "date"] (spD C 2 (sem_need_dateX cs)) := by
  refine fn_body (N := NE_need_dateX) (rd := rd_need_dateX cs) Fn sc_need_dateX rfn_need_dateX fun cdv A outer s H G E hr => ?_
  have nd := sc_need_dateX.nd
  have hK : (cxOf (L2.CX P w) P w K mg base NE_need_dateX "need_date" (defScope s_need_dateX) (He.ga K "need_date") cdv A outer s H E).K = (fxOf C G H E).K := hCK
  have tk : Takes (cxOf (L2.CX P w) P w K mg base NE_need_dateX "need_date" (defScope s_need_dateX) (He.ga K "need_date") cdv A outer s H E) (fxOf C G H E).wish := takes_of rfl rfl rfl rfl
  exact (dss_one (ds_if (PW.pt (dw_or (dt_not (dt_val (de_call G_is_number tk (hr.mono (by decide)) rfl T.glo_is_number F_is_number.kp B_is_number .nil DfR.nil (da_cons (de_var 1 (pv 1)) da_nil)))) (dw_or1 (dt_cmp op_notIn_seq (od_in true hK) (de_var 1 (pv 1)) (de_var 0 (pv 0)) (by rfl))))) (dss_one (ds_raise (congrFun hcad "NoDate") T.oex_NoDate T.ini_NoDate T.tin_NoDate G_NoDate___init__ (hr.mono (by decide)) B_NoDate___init__ (passes_call takes0 fun _ _ _ _ h => h.elim) rfl T.glo_NoDate rfl tk (de_var 1 (pv 1)))) dss_nil))
theorem dd_key_by {P : Program} {w : World} {K : PySem.W.Frag} {mg : Str → Option Value} {base : Heap} {S : Type} {C : Cc S} (hCK : K = C.K) (hcad : C.cad = He.ga K) (T : Txt K mg) {fd : FuncData} (Fn : Fun K "key_by" "key_by" s_key_by (He.ga K "key_by") fd)
   :
  FnOk P w K mg base (L2.CX P w) 1 (He.ga K "key_by") fd ["kind", "dates", "date"] (spD C 3 sem_key_by) := by
  refine fn_body (N := NE_key_by) (rd := rd_key_by) Fn sc_key_by rfn_key_by fun cdv A outer s H G E hr => ?_
  have nd := sc_key_by.nd
  have hK : (cxOf (L2.CX P w) P w K mg base NE_key_by "key_by" (defScope s_key_by) (He.ga K "key_by") cdv A outer s H E).K = (fxOf C G H E).K := hCK
  have tk : Takes (cxOf (L2.CX P w) P w K mg base NE_key_by "key_by" (defScope s_key_by) (He.ga K "key_by") cdv A outer s H E) (fxOf C G H E).wish := takes_of rfl rfl rfl rfl
  exact (dss_cons (ds_if (dt_cmp (op_eqD hr.units) (od_eq hK) (de_var 0 (pv 0)) de_str (by rfl)) (dss_one (ds_ret (de_var 2 (pv 2)))) dss_nil)
    (dss_cons (ds_if (dt_cmp (op_eqD hr.units) (od_eq hK) (de_var 0 (pv 0)) de_str (by rfl)) (dss_one (ds_ret (de_callB call_len (cd_len hK) rfl T.free_len (by decide +kernel) (da_cons (de_lc (own := [("one", 3)]) (g := gName 3) rfl nd (di_seq hK (de_var 1 (pv 1))) (blkOk_by (N := NE_key_by) (sc := defScope s_key_by) (by decide +kernel)) (gw_name (by decide)) (fun _ _ _ _ _ => pg_name (i := 3) nd rfl (Or.inl rfl)) (fun _ _ _ _ _ => (dts_one (dt_cmp op_lt od_lt (de_var 3 (pv 3)) (de_var 2 (pv 2)) (by rfl)))) (fun _ _ _ _ _ => (de_var 3 (pv 3)))) da_nil)))) dss_nil)
    (dss_one (ds_ret (de_if (dt_cmp (op_eqD hr.units) (od_eq hK) (de_var 0 (pv 0)) de_str (by rfl)) (de_op op_sub od_sub (de_var 2 (pv 2)) (de_callB (cr_min rfl) (cd_min hK) rfl T.free_min (by decide +kernel) (da_cons (de_var 1 (pv 1)) da_nil))) (de_callB call_len (cd_len hK) rfl T.free_len (by decide +kernel) (da_cons (de_lc (own := [("one", 3)]) (g := gName 3) rfl nd (di_seq hK (de_var 1 (pv 1))) (blkOk_by (N := NE_key_by) (sc := defScope s_key_by) (by decide +kernel)) (gw_name (by decide)) (fun _ _ _ _ _ => pg_name (i := 3) nd rfl (Or.inl rfl)) (fun _ _ _ _ _ => (dts_one (dt_cmp op_gt od_gt (de_var 3 (pv 3)) (de_var 2 (pv 2)) (by rfl)))) (fun _ _ _ _ _ => (de_var 3 (pv 3)))) da_nil)))))))
theorem dd_key_of {P : Program} {w : World} {K : PySem.W.Frag} {mg : Str → Option Value} {base : Heap} {S : Type} {C : Cc S} (hCK : K = C.K) (hcad : C.cad = He.ga K) (T : Txt K mg) {fd : FuncData} (Fn : Fun K "key_of" "key_of" s_key_of (He.ga K "key_of") fd)
  {fd_need_kindX : FuncData} (F_need_kindX : Fun K "need_kind" "need_kind" s_need_kindX (He.ga K "need_kind") fd_need_kindX) (B_need_kindX : Binds K fd_need_kindX ["kind"] [])
  (G_need_kindX : FnOk P w K mg base (L2.CX P w) 3 (He.ga K "need_kind") fd_need_kindX ["kind"] (spD C 1 (sem_need_kindX cs)))
  {fd_need_datesX : FuncData} (F_need_datesX : Fun K "need_dates" "need_dates" s_need_datesX (He.ga K "need_dates") fd_need_datesX) (B_need_datesX : Binds K fd_need_datesX ["dates"] [])
  (G_need_datesX : FnOk P w K mg base (L2.CX P w) 4 (He.ga K "need_dates") fd_need_datesX ["dates"] (spD C 1 (sem_need_datesX cs)))
  {fd_need_dateX : FuncData} (F_need_dateX : Fun K "need_date" "need_date" s_need_dateX (He.ga K "need_date") fd_need_dateX) (B_need_dateX : Binds K fd_need_dateX ["dates", "date"] [])
  (G_need_dateX : FnOk P w K mg base (L2.CX P w) 3 (He.ga K "need_date") fd_need_dateX ["dates", "date"] (spD C 2 (sem_need_dateX cs)))
  {fd_key_by : FuncData} (F_key_by : Fun K "key_by" "key_by" s_key_by (He.ga K "key_by") fd_key_by) (B_key_by : Binds K fd_key_by ["kind", "dates", "date"] [])
  (G_key_by : FnOk P w K mg base (L2.CX P w) 1 (He.ga K "key_by") fd_key_by ["kind", "dates", "date"] (spD C 3 sem_key_by)) :
  FnOk P w K mg base (L2.CX P w) 5 (He.ga K "key_of") fd ["kind", "dates", "date"] (spD C 3 (sem_key_of cs)) := by
  refine fn_body (N := NE_key_of) (rd := rd_key_of cs) Fn sc_key_of rfn_key_of fun cdv A outer s H G E hr => ?_
  have nd := sc_key_of.nd
  have hK : (cxOf (L2.CX P w) P w K mg base NE_key_of "key_of" (defScope s_key_of) (He.ga K "key_of") cdv A outer s H E).K = (fxOf C G H E).K := hCK
  have tk : Takes (cxOf (L2.CX P w) P w K mg base NE_key_of "key_of" (defScope s_key_of) (He.ga K "key_of") cdv A outer s H E) (fxOf C G H E).wish := takes_of rfl rfl rfl rfl
  exact (dss_cons (ds_expr (de_call G_need_kindX tk (hr.mono (by decide)) rfl T.glo_need_kind F_need_kindX.kp B_need_kindX .nil DfR.nil (da_cons (de_var 0 (pv 0)) da_nil)))
    (dss_cons (ds_expr (de_call G_need_datesX tk (hr.mono (by decide)) rfl T.glo_need_dates F_need_datesX.kp B_need_datesX .nil DfR.nil (da_cons (de_var 1 (pv 1)) da_nil)))
    (dss_cons (ds_expr (de_call G_need_dateX tk (hr.mono (by decide)) rfl T.glo_need_date F_need_dateX.kp B_need_dateX .nil DfR.nil (da_cons (de_var 1 (pv 1)) (da_cons (de_var 2 (pv 2)) da_nil))))
    (dss_one (ds_ret (de_call G_key_by tk (hr.mono (by decide)) rfl T.glo_key_by F_key_by.kp B_key_by .nil DfR.nil (da_cons (de_var 0 (pv 0)) (da_cons (de_callTy call_list_of (cd_list hK) rfl T.free_list (by decide +kernel) (da_cons (de_var 1 (pv 1)) da_nil)) (da_cons (de_var 2 (pv 2)) da_nil)))))))))
theorem dd__law_begun {P : Program} {w : World} {K : PySem.W.Frag} {mg : Str → Option Value} {base : Heap} (T : Txt K mg) {fd : FuncData} (Fn : Fun K "_law_begun" "_law_begun" s__law_begun (He.ga K "_law_begun") fd) : FnOk P w K mg base (L2.CX P w) 1 (He.ga K "_law_begun") fd ["_law_script"] (spBegun K) := by
  refine Fn.okX sc__law_begun (fun vs H Q E h => by obtain ⟨a, ns, rfl, _⟩ := h; rfl) fun cdv A outer s H vs Q E hr h => ?_
  obtain ⟨a, ns, rfl, hs, hl, hq⟩ := h
  have nd := sc__law_begun.nd
  have hK : (cxOf (L2.CX P w) P w K mg base N__law_begun "_law_begun" (defScope s__law_begun) (He.ga K "_law_begun") cdv A outer s H E).K = (fxOf (unitCc K (He.ga K) H) (noT H) H E).K := rfl
  refine ⟨tBegun (fxOf (unitCc K (He.ga K) H) (noT H) H E), ?_, begun_of rfl hs hl hq⟩
  exact (pss_cons (ps_setLc (i := 1) (own := [("_law_cell", 2)]) (g := gName 2) rfl nd rfl rfl (sw_true rfl rfl rfl (by decide +kernel)) (di_seq hK (de_var 0 (pv 0))) (blkOk_by (N := N__law_begun) (sc := defScope s__law_begun) (by decide +kernel)) (fun _ _ _ _ _ => pg_name (i := 2) nd rfl (Or.inl rfl)) (fun _ _ _ _ _ => (dts_one (dt_cmp op_ge od_ge (de_callB call_abs cd_abs rfl T.free_abs (by decide +kernel) (da_cons (de_var 2 (pv 2)) da_nil)) (de_op op_pow od_pow de_int de_int) (by rfl)))) (fun _ _ _ _ _ => (de_op op_sub od_sub (de_callB call_abs cd_abs rfl T.free_abs (by decide +kernel) (da_cons (de_var 2 (pv 2)) da_nil)) (de_op op_pow od_pow de_int de_int))))
    (pss_one (ps_ret (pe_disp (pps_cons de_str (pv 1) (pps_cons de_str de_int (pps_cons de_str (pe_lc (own := [("_law_cell", 2)]) (g := gName 2) rfl nd (di_seq hK (de_var 0 (pv 0))) (blkOk_by (N := N__law_begun) (sc := defScope s__law_begun) (by decide +kernel)) (fun _ _ _ _ _ => pg_name (i := 2) nd rfl (Or.inl rfl)) (fun _ _ _ _ _ => dts_nil) (fun _ _ _ _ _ => (de_callB call_abs cd_abs rfl T.free_abs (by decide +kernel) (da_cons (de_var 2 (pv 2)) da_nil)))) (pps_cons de_str de_int pps_nil)))) rfl rfl (by intro z; cases z) (by decide)))))
theorem dd_law {P : Program} {w : World} {K : PySem.W.Frag} {mg : Str → Option Value} {base : Heap} (T : Txt K mg) {fd : FuncData} (Fn : Fun K "law" "law" s_law (He.ga K "law") fd) (hcode : fd.code = .ref (cTn K "law").1) (ndT : (txs.map fun x => (cTn K x).2).Nodup) (TBn : ∀ p ∈ txs.map (cTn K), LamX.TabB base mg p.1 p.2)
  {fd__law_mixed : FuncData} (F__law_mixed : Fun K "_law_mixed" "_law_mixed" s__law_mixed (He.ga K "_law_mixed") fd__law_mixed) (B__law_mixed : Binds K fd__law_mixed ["_law_draw"] [])
  {fd__law_take : FuncData} (F__law_take : Fun K "_law_take" "_law_take" s__law_take (He.ga K "_law_take") fd__law_take) (B__law_take : Binds K fd__law_take ["_law_draw", "_law_many"] [])
  {fd__law_pick : FuncData} (F__law_pick : Fun K "_law_pick" "_law_pick" s__law_pick (He.ga K "_law_pick") fd__law_pick) (B__law_pick : Binds K fd__law_pick ["_law_draw", "_law_some"] [])
  {fd__law_shuffled : FuncData} (F__law_shuffled : Fun K "_law_shuffled" "_law_shuffled" s__law_shuffled (He.ga K "_law_shuffled") fd__law_shuffled) (B__law_shuffled : Binds K fd__law_shuffled ["_law_draw", "_law_some"] [])
  {fd__law_datesX : FuncData} (F__law_datesX : Fun K "_law_dates" "_law_dates" s__law_datesX (He.ga K "_law_dates") fd__law_datesX) (B__law_datesX : Binds K fd__law_datesX ["_law_draw", "_law_most"] [])
  {fd__law_kinds : FuncData} (F__law_kinds : Fun K "_law_kinds" "_law_kinds" s__law_kinds (He.ga K "_law_kinds") fd__law_kinds) (B__law_kinds : Binds K fd__law_kinds [] [])
  {fd__law_odd : FuncData} (F__law_odd : Fun K "_law_odd" "_law_odd" s__law_odd (He.ga K "_law_odd") fd__law_odd) (B__law_odd : Binds K fd__law_odd ["_law_draw"] [])
  {fd__law_bent_dates : FuncData} (F__law_bent_dates : Fun K "_law_bent_dates" "_law_bent_dates" s__law_bent_dates (He.ga K "_law_bent_dates") fd__law_bent_dates) (B__law_bent_dates : Binds K fd__law_bent_dates ["_law_draw", "_law_datesx"] [])
  {fd__law_are_dates : FuncData} (F__law_are_dates : Fun K "_law_are_dates" "_law_are_dates" s__law_are_dates (He.ga K "_law_are_dates") fd__law_are_dates) (B__law_are_dates : Binds K fd__law_are_dates ["_law_thing"] [])
  {fd__law_key : FuncData} (F__law_key : Fun K "_law_key" "_law_key" s__law_key (He.ga K "_law_key") fd__law_key) (B__law_key : Binds K fd__law_key ["_law_kindx", "_law_datesx", "_law_datex"] [])
  {fd__law_due : FuncData} (F__law_due : Fun K "_law_due" "_law_due" s__law_due (He.ga K "_law_due") fd__law_due) (B__law_due : Binds K fd__law_due ["_law_kindx", "_law_datesx", "_law_datex"] [])
  {fd__law_caught : FuncData} (F__law_caught : Fun K "_law_caught" "_law_caught" s__law_caught (He.ga K "_law_caught") fd__law_caught) (B__law_caught : Binds K fd__law_caught ["_law_work"] [])
  {fd__law_told : FuncData} (F__law_told : Fun K "_law_told" "_law_told" s__law_told (He.ga K "_law_told") fd__law_told) (B__law_told : Binds K fd__law_told ["_law_work"] [])
  {fd_is_kind : FuncData} (F_is_kind : Fun K "is_kind" "is_kind" s_is_kind (He.ga K "is_kind") fd_is_kind) (B_is_kind : Binds K fd_is_kind ["thing"] [])
  {fd_BadKind___init__ : FuncData} (F_BadKind___init__ : Fun K "__init__" "BadKind.__init__" s_BadKind___init__ (He.ma K (He.ga K "BadKind") "__init__") fd_BadKind___init__) (B_BadKind___init__ : Binds K fd_BadKind___init__ ["self", "kind"] [])
  {fd_need_kindX : FuncData} (F_need_kindX : Fun K "need_kind" "need_kind" s_need_kindX (He.ga K "need_kind") fd_need_kindX) (B_need_kindX : Binds K fd_need_kindX ["kind"] [])
  {fd_is_list : FuncData} (F_is_list : Fun K "is_list" "is_list" s_is_list (He.ga K "is_list") fd_is_list) (B_is_list : Binds K fd_is_list ["thing"] [])
  {fd_is_number : FuncData} (F_is_number : Fun K "is_number" "is_number" s_is_number (He.ga K "is_number") fd_is_number) (B_is_number : Binds K fd_is_number ["thing"] [])
  {fd_are_different : FuncData} (F_are_different : Fun K "are_different" "are_different" s_are_different (He.ga K "are_different") fd_are_different) (B_are_different : Binds K fd_are_different ["thing", "least", "most"] [])
  {fd_are_dates : FuncData} (F_are_dates : Fun K "are_dates" "are_dates" s_are_dates (He.ga K "are_dates") fd_are_dates) (B_are_dates : Binds K fd_are_dates ["thing"] [])
  {fd_need_datesX : FuncData} (F_need_datesX : Fun K "need_dates" "need_dates" s_need_datesX (He.ga K "need_dates") fd_need_datesX) (B_need_datesX : Binds K fd_need_datesX ["dates"] [])
  {fd_NoDate___init__ : FuncData} (F_NoDate___init__ : Fun K "__init__" "NoDate.__init__" s_NoDate___init__ (He.ma K (He.ga K "NoDate") "__init__") fd_NoDate___init__) (B_NoDate___init__ : Binds K fd_NoDate___init__ ["self", "date"] [])
  {fd_need_dateX : FuncData} (F_need_dateX : Fun K "need_date" "need_date" s_need_dateX (He.ga K "need_date") fd_need_dateX) (B_need_dateX : Binds K fd_need_dateX ["dates", "date"] [])
  {fd_key_by : FuncData} (F_key_by : Fun K "key_by" "key_by" s_key_by (He.ga K "key_by") fd_key_by) (B_key_by : Binds K fd_key_by ["kind", "dates", "date"] [])
  {fd_key_of : FuncData} (F_key_of : Fun K "key_of" "key_of" s_key_of (He.ga K "key_of") fd_key_of) (B_key_of : Binds K fd_key_of ["kind", "dates", "date"] [])
  {fd__law_begun : FuncData} (F__law_begun : Fun K "_law_begun" "_law_begun" s__law_begun (He.ga K "_law_begun") fd__law_begun) (B__law_begun : Binds K fd__law_begun ["_law_script"] [])
  (KB_key_of_date_dates_kind : KwB K fd_key_of ["kind", "dates", "date"] 0 ["date", "dates", "kind"] [2, 1, 0]) (hcode__law_told : fd__law_told.code = .ref (cTn K "_law_told").1) :
  FnG P w K mg base (L2.CX P w) 10 (He.ga K "law") fd ["_law_script"] (spLawT K (TlN K txs)) := by
  refine fun_okGT Fn hcode sc_law (fun vs H Q E h => by obtain ⟨a, ns, rfl, _⟩ := h; rfl) fun A outer s H vs Q E hgd0 hr h => ?_
  have hgd : (cxOf (L2.CX P w) P w K mg base N_law "law" (defScope s_law) (He.ga K "law") (.ref (cTn K "law").1) A outer s H E).A.guards = some [] := hgd0
  obtain ⟨a, ns, rfl, hs, hl, hT, hq⟩ := h
  have nd := sc_law.nd
  have TB := TBn _ (List.mem_map.mpr ⟨"law", by decide, rfl⟩)
  have G__law_begun := dd__law_begun (P := P) (w := w) (base := base) T F__law_begun
  have tk0 : Takes (cxOf (L2.CX P w) P w K mg base N_law "law" (defScope s_law) (He.ga K "law") (.ref (cTn K "law").1) A outer s H E) (fxOf (unitCc K (He.ga K) H) (noT H) H E).wish := takes_of rfl rfl rfl rfl
  have hrest : ∀ (H1 : Hp) (dp wl cl : Addr) (cells : List Int), (dp ≠ wl ∧ dp ≠ cl ∧ wl ≠ cl) → PSs (cxOf (L2.CX P w) P w K mg base N_law "law" (defScope s_law) (He.ga K "law") (.ref (cTn K "law").1) A outer s H E) ((defBody s_law).drop 1) (tS (fxOf (drawCcL ({} : LamI) K (He.ga K) dp wl cl cells (TlN K txs)) (noT H) H1 E) (rd_law cs cells)) := by
    intro H1 dp wl cl cells hd
    have hCK : K = (drawCcL ({} : LamI) K (He.ga K) dp wl cl cells (TlN K txs)).K := rfl
    have hcad : (drawCcL ({} : LamI) K (He.ga K) dp wl cl cells (TlN K txs)).cad = He.ga K := rfl
    have hK : (cxOf (L2.CX P w) P w K mg base N_law "law" (defScope s_law) (He.ga K "law") (.ref (cTn K "law").1) A outer s H E).K = (fxOf (drawCcL ({} : LamI) K (He.ga K) dp wl cl cells (TlN K txs)) (noT H) H1 E).K := hCK
    have tk : Takes (cxOf (L2.CX P w) P w K mg base N_law "law" (defScope s_law) (He.ga K "law") (.ref (cTn K "law").1) A outer s H E) (fxOf (drawCcL ({} : LamI) K (He.ga K) dp wl cl cells (TlN K txs)) (noT H) H1 E).wish := takes_of rfl rfl rfl rfl
    have R := drF_ofT (L := ({} : LamI)) (T := (TlN K txs)) (G := noT H) (H := H1) (E := E) (K := K) (cad := He.ga K) (cells := cells) hd
    have G__law_mixed := dd__law_mixed (P := P) (w := w) (base := base) (Lm := ({} : LamI)) (cells := cells) (Tl := (TlN K txs)) hd T F__law_mixed
    have G__law_take := dd__law_take (P := P) (w := w) (base := base) (Lm := ({} : LamI)) (cells := cells) (Tl := (TlN K txs)) hd T F__law_take F__law_mixed B__law_mixed G__law_mixed
    have G__law_pick := dd__law_pick (P := P) (w := w) (base := base) (Lm := ({} : LamI)) (cells := cells) (Tl := (TlN K txs)) hd T F__law_pick F__law_take B__law_take G__law_take
    have G__law_shuffled := dd__law_shuffled (P := P) (w := w) (base := base) (Lm := ({} : LamI)) (cells := cells) (Tl := (TlN K txs)) hd T F__law_shuffled F__law_take B__law_take G__law_take
    have G__law_datesX := dd__law_datesX (P := P) (w := w) (base := base) (Lm := ({} : LamI)) (cells := cells) (Tl := (TlN K txs)) hd T F__law_datesX F__law_pick B__law_pick G__law_pick F__law_take B__law_take G__law_take F__law_shuffled B__law_shuffled G__law_shuffled
    have G__law_kinds := dd__law_kinds (P := P) (w := w) (base := base) (C := drawCcL ({} : LamI) K (He.ga K) dp wl cl cells (TlN K txs)) rfl rfl T F__law_kinds
    have G__law_odd := dd__law_odd (P := P) (w := w) (base := base) (Lm := ({} : LamI)) (cells := cells) (Tl := (TlN K txs)) hd T F__law_odd F__law_pick B__law_pick G__law_pick
    have G__law_bent_dates := dd__law_bent_dates (P := P) (w := w) (base := base) (Lm := ({} : LamI)) (cells := cells) (Tl := (TlN K txs)) hd T F__law_bent_dates F__law_pick B__law_pick G__law_pick F__law_take B__law_take G__law_take
    have G__law_are_dates := dd__law_are_dates (P := P) (w := w) (base := base) (C := drawCcL ({} : LamI) K (He.ga K) dp wl cl cells (TlN K txs)) rfl rfl T F__law_are_dates
    have G__law_key := dd__law_key (P := P) (w := w) (base := base) (C := drawCcL ({} : LamI) K (He.ga K) dp wl cl cells (TlN K txs)) rfl rfl T F__law_key
    have G__law_due := dd__law_due (P := P) (w := w) (base := base) (C := drawCcL ({} : LamI) K (He.ga K) dp wl cl cells (TlN K txs)) rfl rfl T F__law_due F__law_kinds B__law_kinds G__law_kinds F__law_are_dates B__law_are_dates G__law_are_dates F__law_key B__law_key G__law_key
    have G_is_kind := dd_is_kind (P := P) (w := w) (base := base) (C := drawCcL ({} : LamI) K (He.ga K) dp wl cl cells (TlN K txs)) rfl rfl T F_is_kind
    have G_BadKind___init__ := dd_BadKind___init__ (P := P) (w := w) (base := base) T F_BadKind___init__
    have G_need_kindX := dd_need_kindX (P := P) (w := w) (base := base) (C := drawCcL ({} : LamI) K (He.ga K) dp wl cl cells (TlN K txs)) rfl rfl T F_need_kindX F_is_kind B_is_kind G_is_kind F_BadKind___init__ B_BadKind___init__ G_BadKind___init__
    have G_is_list := dd_is_list (P := P) (w := w) (base := base) (C := drawCcL ({} : LamI) K (He.ga K) dp wl cl cells (TlN K txs)) rfl rfl T F_is_list
    have G_is_number := dd_is_number (P := P) (w := w) (base := base) (C := drawCcL ({} : LamI) K (He.ga K) dp wl cl cells (TlN K txs)) rfl rfl T F_is_number
    have G_are_different := dd_are_different (P := P) (w := w) (base := base) (C := drawCcL ({} : LamI) K (He.ga K) dp wl cl cells (TlN K txs)) rfl rfl T F_are_different F_is_list B_is_list G_is_list F_is_number B_is_number G_is_number
    have G_are_dates := dd_are_dates (P := P) (w := w) (base := base) (C := drawCcL ({} : LamI) K (He.ga K) dp wl cl cells (TlN K txs)) rfl rfl T F_are_dates F_is_list B_is_list G_is_list F_are_different B_are_different G_are_different
    have G_need_datesX := dd_need_datesX (P := P) (w := w) (base := base) (C := drawCcL ({} : LamI) K (He.ga K) dp wl cl cells (TlN K txs)) rfl rfl T F_need_datesX F_are_dates B_are_dates G_are_dates
    have G_NoDate___init__ := dd_NoDate___init__ (P := P) (w := w) (base := base) T F_NoDate___init__
    have G_need_dateX := dd_need_dateX (P := P) (w := w) (base := base) (C := drawCcL ({} : LamI) K (He.ga K) dp wl cl cells (TlN K txs)) rfl rfl T F_need_dateX F_is_number B_is_number G_is_number F_NoDate___init__ B_NoDate___init__ G_NoDate___init__
    have G_key_by := dd_key_by (P := P) (w := w) (base := base) (C := drawCcL ({} : LamI) K (He.ga K) dp wl cl cells (TlN K txs)) rfl rfl T F_key_by
    have G_key_of := dd_key_of (P := P) (w := w) (base := base) (C := drawCcL ({} : LamI) K (He.ga K) dp wl cl cells (TlN K txs)) rfl rfl T F_key_of F_need_kindX B_need_kindX G_need_kindX F_need_datesX B_need_datesX G_need_datesX F_need_dateX B_need_dateX G_need_dateX F_key_by B_key_by G_key_by
    exact (dss_cons (ds_for (passes_of rfl) rfl (di_range1 rfl T.free_range (da_cons (de_op or_add (od_add hK) de_int (de_callB (call_min2 rfl) cd_min2 rfl T.free_min (by decide +kernel) (da_cons (de_callB call_len (cd_len hK) rfl T.free_len (by decide +kernel) (da_cons (de_var 0 (pv 0)) da_nil)) (da_cons de_int da_nil)))) da_nil)) (dg_name 2 (pg_name (i := 2) nd rfl (.inl rfl))) (dss_cons (ds_asg (de_tup (da_cons (de_call G__law_datesX tk (hr.mono (by decide)) rfl T.glo__law_dates F__law_datesX.kp B__law_datesX .nil DfR.nil (da_cons (de_var 1 (pv 1)) (da_cons de_int da_nil))) (da_cons (de_call G__law_pick tk (hr.mono (by decide)) rfl T.glo__law_pick F__law_pick.kp B__law_pick .nil DfR.nil (da_cons (de_var 1 (pv 1)) (da_cons (de_call0 G__law_kinds tk (hr.mono (by decide)) rfl T.glo__law_kinds F__law_kinds.kp B__law_kinds .nil DfR.nil) da_nil))) da_nil))) (dg_tup hK rfl (dgs_cons (dg_name 3 (pg_name (i := 3) nd rfl (.inr rfl))) (dgs_cons (dg_name 4 (pg_name (i := 4) nd rfl (.inr rfl))) dgs_nil))))
    (dss_cons (ds_asg (de_if (dt_cmp op_gt od_gt (de_call G__law_take tk (hr.mono (by decide)) rfl T.glo__law_take F__law_take.kp B__law_take .nil DfR.nil (da_cons (de_var 1 (pv 1)) (da_cons de_int da_nil))) de_int (by rfl)) (de_call G__law_pick tk (hr.mono (by decide)) rfl T.glo__law_pick F__law_pick.kp B__law_pick .nil DfR.nil (da_cons (de_var 1 (pv 1)) (da_cons (de_op or_add (od_add hK) (de_var 3 (pv 3)) (de_lst (da_cons de_int (da_cons de_int da_nil)))) da_nil))) (de_call G__law_pick tk (hr.mono (by decide)) rfl T.glo__law_pick F__law_pick.kp B__law_pick .nil DfR.nil (da_cons (de_var 1 (pv 1)) (da_cons (de_lst (da_cons (de_call G__law_odd tk (hr.mono (by decide)) rfl T.glo__law_odd F__law_odd.kp B__law_odd .nil DfR.nil (da_cons (de_var 1 (pv 1)) da_nil)) (da_cons de_bl da_nil))) da_nil)))) (dg_name 5 (pg_name (i := 5) nd rfl (.inr rfl))))
    (dss_cons (ds_if (dt_cmp (op_eqD hr.units) (od_eq hK) (de_call G__law_take tk (hr.mono (by decide)) rfl T.glo__law_take F__law_take.kp B__law_take .nil DfR.nil (da_cons (de_var 1 (pv 1)) (da_cons de_int da_nil))) de_int (by rfl)) (dss_one (ds_asg (de_call G__law_pick tk (hr.mono (by decide)) rfl T.glo__law_pick F__law_pick.kp B__law_pick .nil DfR.nil (da_cons (de_var 1 (pv 1)) (da_cons (de_lst (da_cons (de_call G__law_odd tk (hr.mono (by decide)) rfl T.glo__law_odd F__law_odd.kp B__law_odd .nil DfR.nil (da_cons (de_var 1 (pv 1)) da_nil)) (da_cons de_str (da_cons de_str (da_cons de_str da_nil))))) da_nil))) (dg_name 4 (pg_name (i := 4) nd rfl (.inr rfl))))) dss_nil)
    (dss_cons (ds_if (dt_cmp (op_eqD hr.units) (od_eq hK) (de_call G__law_take tk (hr.mono (by decide)) rfl T.glo__law_take F__law_take.kp B__law_take .nil DfR.nil (da_cons (de_var 1 (pv 1)) (da_cons de_int da_nil))) de_int (by rfl)) (dss_one (ds_asg (de_call G__law_bent_dates tk (hr.mono (by decide)) rfl T.glo__law_bent_dates F__law_bent_dates.kp B__law_bent_dates .nil DfR.nil (da_cons (de_var 1 (pv 1)) (da_cons (de_var 3 (pv 3)) da_nil))) (dg_name 3 (pg_name (i := 3) nd rfl (.inr rfl))))) dss_nil)
    (dss_cons (ds_par rfl nd rfl rfl (by decide) rfl rfl (da_cons (de_callG hgd G__law_due tk (hr.mono (by decide)) rfl T.glo__law_due F__law_due.kp B__law_due .nil DfR.nil (da_cons (de_var 4 (pv 4)) (da_cons (de_var 3 (pv 3)) (da_cons (de_var 5 (pv 5)) da_nil)))) (da_cons (de_callB (call_reprN hgd (u70 hr)) (cd_reprN hK) rfl T.free_repr (by decide +kernel) (da_cons (de_lst (da_cons (de_var 4 (pv 4)) (da_cons (de_var 3 (pv 3)) (da_cons (de_var 5 (pv 5)) da_nil)))) da_nil)) da_nil)) (by rfl))
    (dss_cons (ds_if (PW.pt (dw_or (dt_cmp (op_neD hr.units) (od_ne hK) (de_told4 (T := TlN K txs) (SE := He.ga K "SeriesError") (c := (cTn K "law").1) (P := (cTn K "law").2) (ct2 := (cTn K "_law_told").1) (P2 := (cTn K "_law_told").2) (a := "_law_work") (b := "_law_work") (fv := "_law_found") (ev := "_law_error") (Nt := N__law_told) (Ng := N__law_caught) (k := 5) (rest := (defBody s__law_told).drop 2) F__law_told hcode__law_told sc__law_told B__law_told rfl T.glo__law_told rfl rfl (.inr (.inr rfl)) (.inr (.inr rfl)) F__law_caught sc__law_caught B__law_caught rfl T.glo__law_caught rfl (.inl rfl) (fun cdc s H => keep_gives (a := "_law_work") (m := "_law_found") (n := "_law_error") (e := "SeriesError") (by decide) rfl rfl T.glo_SeriesError rfl rfl rfl rfl rfl rfl rfl (fun _ => rfl) (fun _ => rfl) (fun _ _ => rfl) (fun _ _ => rfl) (fun _ => rfl)) (fun s H hr2 G1 H1 => dr__law_told hCK hcad T (.ref (cTn K "_law_told").1) hr2 hgd G1 H1) sc__law_told.nd rfl rfl rfl rfl (fun _ => rfl) (fun _ _ => rfl) (fun _ => rfl) (fun _ _ => rfl) (fun _ => rfl) rfl TB rfl (tlN_mem (by decide)) (tlN_u ndT (by decide)) tabW_draw T.exm_SeriesError (hr.mono (by decide)) (LamX.lamS_by (sc := defScope s_law) (by decide +kernel)) rfl (fun _ _ _ _ _ => rfl) (fun A outer s H0 E f c' hr G H => lam_in (fun hK tk => (de_call G_key_of tk (hr.mono (by decide)) rfl T.glo_key_of F_key_of.kp B_key_of .nil DfR.nil (da_cons (de_var 4 (pv 4)) (da_cons (de_var 3 (pv 3)) (da_cons (de_var 5 (pv 5)) da_nil))))) hCK (takes_of rfl rfl rfl rfl)) (TBn _ (List.mem_map.mpr ⟨"_law_told", by decide, rfl⟩)) (fun _ _ => tlN_mem (by decide)) (fun _ _ => tlN_u ndT (by decide)) (LamX.lamS_by (sc := defScope s__law_told) (by decide +kernel)) (fun _ => rfl) (fun _ _ _ _ _ => rfl)) (de_var 6 (pv 6)) (by rfl)) (dw_or1 (dt_cmp (op_neD hr.units) (od_ne hK) (de_callB (call_reprN hgd (u70 hr)) (cd_reprN hK) rfl T.free_repr (by decide +kernel) (da_cons (de_lst (da_cons (de_var 4 (pv 4)) (da_cons (de_var 3 (pv 3)) (da_cons (de_var 5 (pv 5)) da_nil)))) da_nil)) (de_var 7 (pv 7)) (by rfl))))) (dss_one (ds_ret de_bl)) dss_nil)
    (dss_cons (ds_if (dt_cmp (op_neD hr.units) (od_ne hK) (de_told4 (T := TlN K txs) (SE := He.ga K "SeriesError") (c := (cTn K "law").1) (P := (cTn K "law").2) (ct2 := (cTn K "_law_told").1) (P2 := (cTn K "_law_told").2) (a := "_law_work") (b := "_law_work") (fv := "_law_found") (ev := "_law_error") (Nt := N__law_told) (Ng := N__law_caught) (k := 5) (rest := (defBody s__law_told).drop 2) F__law_told hcode__law_told sc__law_told B__law_told rfl T.glo__law_told rfl rfl (.inr (.inr rfl)) (.inr (.inr rfl)) F__law_caught sc__law_caught B__law_caught rfl T.glo__law_caught rfl (.inl rfl) (fun cdc s H => keep_gives (a := "_law_work") (m := "_law_found") (n := "_law_error") (e := "SeriesError") (by decide) rfl rfl T.glo_SeriesError rfl rfl rfl rfl rfl rfl rfl (fun _ => rfl) (fun _ => rfl) (fun _ _ => rfl) (fun _ _ => rfl) (fun _ => rfl)) (fun s H hr2 G1 H1 => dr__law_told hCK hcad T (.ref (cTn K "_law_told").1) hr2 hgd G1 H1) sc__law_told.nd rfl rfl rfl rfl (fun _ => rfl) (fun _ _ => rfl) (fun _ => rfl) (fun _ _ => rfl) (fun _ => rfl) rfl TB rfl (tlN_mem (by decide)) (tlN_u ndT (by decide)) tabW_draw T.exm_SeriesError (hr.mono (by decide)) (LamX.lamS_by (sc := defScope s_law) (by decide +kernel)) rfl (fun _ _ _ _ _ => rfl) (fun A outer s H0 E f c' hr G H => lam_in (fun hK tk => (de_callK G_key_of tk (hr.mono (by decide)) rfl T.glo_key_of F_key_of.kp KB_key_of_date_dates_kind (dk_cons (de_var 5 (pv 5)) (dk_cons (de_var 3 (pv 3)) (dk_cons (de_var 4 (pv 4)) dk_nil))))) hCK (takes_of rfl rfl rfl rfl)) (TBn _ (List.mem_map.mpr ⟨"_law_told", by decide, rfl⟩)) (fun _ _ => tlN_mem (by decide)) (fun _ _ => tlN_u ndT (by decide)) (LamX.lamS_by (sc := defScope s__law_told) (by decide +kernel)) (fun _ => rfl) (fun _ _ _ _ _ => rfl)) (de_var 6 (pv 6)) (by rfl)) (dss_one (ds_ret de_bl)) dss_nil)
    (dss_one (ds_if (PW.pt (dw_and (dt_val (de_isi hK (T.kit_ty_list hCK hcad) (.ty _) (de_var 3 (pv 3)) (pe_bltn (by rfl) T.free_list (by decide +kernel) (v := .ty "list") rfl) rfl T.free_isinstance)) (dw_and1 (dt_cmp (op_neD hr.units) (od_ne hK) (de_told4 (T := TlN K txs) (SE := He.ga K "SeriesError") (c := (cTn K "law").1) (P := (cTn K "law").2) (ct2 := (cTn K "_law_told").1) (P2 := (cTn K "_law_told").2) (a := "_law_work") (b := "_law_work") (fv := "_law_found") (ev := "_law_error") (Nt := N__law_told) (Ng := N__law_caught) (k := 5) (rest := (defBody s__law_told).drop 2) F__law_told hcode__law_told sc__law_told B__law_told rfl T.glo__law_told rfl rfl (.inr (.inr rfl)) (.inr (.inr rfl)) F__law_caught sc__law_caught B__law_caught rfl T.glo__law_caught rfl (.inl rfl) (fun cdc s H => keep_gives (a := "_law_work") (m := "_law_found") (n := "_law_error") (e := "SeriesError") (by decide) rfl rfl T.glo_SeriesError rfl rfl rfl rfl rfl rfl rfl (fun _ => rfl) (fun _ => rfl) (fun _ _ => rfl) (fun _ _ => rfl) (fun _ => rfl)) (fun s H hr2 G1 H1 => dr__law_told hCK hcad T (.ref (cTn K "_law_told").1) hr2 hgd G1 H1) sc__law_told.nd rfl rfl rfl rfl (fun _ => rfl) (fun _ _ => rfl) (fun _ => rfl) (fun _ _ => rfl) (fun _ => rfl) rfl TB rfl (tlN_mem (by decide)) (tlN_u ndT (by decide)) tabW_draw T.exm_SeriesError (hr.mono (by decide)) (LamX.lamS_by (sc := defScope s_law) (by decide +kernel)) rfl (fun _ _ _ _ _ => rfl) (fun A outer s H0 E f c' hr G H => lam_in (fun hK tk => (de_call G_key_of tk (hr.mono (by decide)) rfl T.glo_key_of F_key_of.kp B_key_of .nil DfR.nil (da_cons (de_var 4 (pv 4)) (da_cons (de_callTy call_tuple_of (cd_tuple hK) rfl T.free_tuple (by decide +kernel) (da_cons (de_var 3 (pv 3)) da_nil)) (da_cons (de_var 5 (pv 5)) da_nil))))) hCK (takes_of rfl rfl rfl rfl)) (TBn _ (List.mem_map.mpr ⟨"_law_told", by decide, rfl⟩)) (fun _ _ => tlN_mem (by decide)) (fun _ _ => tlN_u ndT (by decide)) (LamX.lamS_by (sc := defScope s__law_told) (by decide +kernel)) (fun _ => rfl) (fun _ _ _ _ _ => rfl)) (de_var 6 (pv 6)) (by rfl))))) (dss_one (ds_ret de_bl)) dss_nil))))))))))
    (dss_one (ds_ret de_bl)))
  refine ⟨_, pss_cons (ps_asg (pe_call G__law_begun (hr.mono (by decide)) rfl T.glo__law_begun F__law_begun.kp B__law_begun .nil (passes_F tk0) (pa_cons (pv 0) pa_nil)) (pg_name (i := 1) nd rfl (.inl rfl))) (pss_restL (rd := rd_law cs) hrest), law_ofL rfl hs hl hT hq fun cells st => ?_⟩
  obtain ⟨f, s', e, rfl⟩ := law_yes (cs := cs) cells ns st
  exact ⟨s', e⟩
theorem txt_of {K : PySem.W.Frag} {h : Heap} {mg : Str → Option Value} (X : K.In h) (G : h.Ns mainGlobals mg) (c : SaysB fbs fns K) : Txt K mg := ⟨
  ⟨(He.ba (c.fact 0)).1, (He.ba (c.fact 0)).2⟩,
  exmB_ok (c.fact 1),
  He.free_ok X G (c.fact 2),
  He.free_ok X G (c.fact 3),
  He.free_ok X G (c.fact 4),
  He.free_ok X G (c.fact 5),
  He.free_ok X G (c.fact 6),
  He.free_ok X G (c.fact 7),
  He.free_ok X G (c.fact 8),
  He.free_ok X G (c.fact 9),
  He.free_ok X G (c.fact 10),
  He.free_ok X G (c.fact 11),
  He.free_ok X G (c.fact 12),
  He.free_ok X G (c.fact 13),
  He.free_ok X G (c.fact 14),
  He.free_ok X G (c.fact 15),
  He.free_ok X G (c.fact 16),
  He.free_ok X G (c.fact 17),
  He.glo_ok X G (c.fact 18),
  He.glo_ok X G (c.fact 19),
  He.glo_ok X G (c.fact 20),
  He.glo_ok X G (c.fact 21),
  He.glo_ok X G (c.fact 22),
  He.glo_ok X G (c.fact 23),
  He.glo_ok X G (c.fact 24),
  He.glo_ok X G (c.fact 25),
  He.glo_ok X G (c.fact 26),
  He.glo_ok X G (c.fact 27),
  He.glo_ok X G (c.fact 28),
  He.glo_ok X G (c.fact 29),
  He.glo_ok X G (c.fact 30),
  He.glo_ok X G (c.fact 31),
  He.glo_ok X G (c.fact 32),
  He.glo_ok X G (c.fact 33),
  He.glo_ok X G (c.fact 34),
  He.glo_ok X G (c.fact 35),
  He.glo_ok X G (c.fact 36),
  He.glo_ok X G (c.fact 37),
  He.glo_ok X G (c.fact 38),
  He.glo_ok X G (c.fact 39),
  He.glo_ok X G (c.fact 40),
  He.glo_ok X G (c.fact 41),
  He.glo_ok X G (c.fact 42),
  He.glo_ok X G (c.fact 43),
  He.glo_ok X G (c.fact 44),
  He.glo_ok X G (c.fact 45),
  He.glo_ok X G (c.fact 46),
  c.fact 47,
  He.eqO_ok (c.fact 48),
  He.eqO_ok (c.fact 49),
  He.int_ok X G (c.fact 50),
  He.int_ok X G (c.fact 51),
  oexB_ok (c.fact 52),
  oexB_ok (c.fact 53),
  ⟨of_decide_eq_true (He.ba (c.fact 54)).1, of_decide_eq_true (He.ba (c.fact 54)).2⟩,
  of_decide_eq_true (c.fact 55),
  of_decide_eq_true (c.fact 56),
  xfB_ok (c.fact 57),
  xfB_ok (c.fact 58),
  He.eqO_ok (c.fact 59),
  He.eqO_ok (c.fact 60),
  fun {S C} h1 h2 => by subst h1; rw [h2]; exact kxB_ok (c.fact 62) (c.fact 61) (by decide +kernel) (by decide +kernel),
  fun {S C} h1 h2 => by subst h1; rw [h2]; exact kxB_ok (c.fact 63) (c.fact 61) (by decide +kernel) (by decide +kernel),
  fun {S C} h1 h2 => by subst h1; rw [h2]; exact kxB_ok (c.fact 64) (c.fact 61) (by decide +kernel) (by decide +kernel),
  fun {S C} h1 h2 => by subst h1; rw [h2]; exact kxB_ok (c.fact 65) (c.fact 61) (by decide +kernel) (by decide +kernel),
  fun {S C} h1 h2 => by subst h1; rw [h2]; exact kitB_ok (c.fact 67) (c.fact 66) (by decide +kernel) (kit_own (by decide +kernel)),
  fun {S C} h1 h2 => by subst h1; rw [h2]; exact kitB_ok (c.fact 68) (c.fact 66) (by decide +kernel) (kit_own (by decide +kernel)),
  fun {S C} h1 h2 => by subst h1; rw [h2]; exact kitB_ok (c.fact 69) (c.fact 66) (by decide +kernel) (kit_own (by decide +kernel)),
  fun {S C} h1 h2 => by subst h1; rw [h2]; exact kitB_ok (c.fact 70) (c.fact 66) (by decide +kernel) (kit_own (by decide +kernel)),
  fun {S C} h1 h2 => by subst h1; rw [h2]; exact kitB_ok (c.fact 71) (c.fact 66) (by decide +kernel) (kit_own (by decide +kernel)),
  fun {S C} h1 h2 => by subst h1; rw [h2]; exact kitB_ok (c.fact 72) (c.fact 66) (by decide +kernel) (kit_own (by decide +kernel)),
  fun {S C} h1 h2 => by subst h1; rw [h2]; exact kitB_ok (c.fact 73) (c.fact 66) (by decide +kernel) (kit_own (by decide +kernel)),
  fun {S C} h1 h2 => by subst h1; rw [h2]; exact kitB_ok (c.fact 74) (c.fact 66) (by decide +kernel) (kit_own (by decide +kernel)),
  fun {S C} h1 h2 => by subst h1; rw [h2]; exact kitB_ok (c.fact 75) (c.fact 66) (by decide +kernel) (kit_own (by decide +kernel))⟩
theorem facts {P : Program} {w : World} {K : PySem.W.Frag} {h : Heap} {mg : Str → Option Value} {f : Addr} (X : K.In h) (G : h.Ns mainGlobals mg) (hfa : mg ("law" : Str) = some (.ref f)) (c : SaysBN fbs fns txs h K) :
    ∃ fd : FuncData, (∀ (s : Shared) (v : Value), BindsTo s fd ⟨[v], []⟩ [("_law_script", v)]) ∧ ∀ base : Heap, K.In base → base.Ns mainGlobals mg → (∀ p ∈ txs.map (cTn K), LamX.TabB base mg p.1 p.2) → FnG P w K mg base (L2.CX P w) 10 f fd ["_law_script"] (spLawT K (TlN K txs)) := by
  obtain ⟨c, _, _, _, ndT⟩ := c
  have T := txt_of X G c
  obtain ⟨fd__law_mixed, F__law_mixed⟩ := c.fun_ 0 (a := fun K => (He.ga K "_law_mixed")) (x := "_law_mixed") (qual := "_law_mixed") (st := s__law_mixed) rfl
  obtain ⟨fd__law_take, F__law_take⟩ := c.fun_ 1 (a := fun K => (He.ga K "_law_take")) (x := "_law_take") (qual := "_law_take") (st := s__law_take) rfl
  obtain ⟨fd__law_pick, F__law_pick⟩ := c.fun_ 2 (a := fun K => (He.ga K "_law_pick")) (x := "_law_pick") (qual := "_law_pick") (st := s__law_pick) rfl
  obtain ⟨fd__law_shuffled, F__law_shuffled⟩ := c.fun_ 3 (a := fun K => (He.ga K "_law_shuffled")) (x := "_law_shuffled") (qual := "_law_shuffled") (st := s__law_shuffled) rfl
  obtain ⟨fd__law_datesX, F__law_datesX⟩ := c.fun_ 4 (a := fun K => (He.ga K "_law_dates")) (x := "_law_dates") (qual := "_law_dates") (st := s__law_datesX) rfl
  obtain ⟨fd__law_kinds, F__law_kinds⟩ := c.fun_ 5 (a := fun K => (He.ga K "_law_kinds")) (x := "_law_kinds") (qual := "_law_kinds") (st := s__law_kinds) rfl
  obtain ⟨fd__law_odd, F__law_odd⟩ := c.fun_ 6 (a := fun K => (He.ga K "_law_odd")) (x := "_law_odd") (qual := "_law_odd") (st := s__law_odd) rfl
  obtain ⟨fd__law_bent_dates, F__law_bent_dates⟩ := c.fun_ 7 (a := fun K => (He.ga K "_law_bent_dates")) (x := "_law_bent_dates") (qual := "_law_bent_dates") (st := s__law_bent_dates) rfl
  obtain ⟨fd__law_are_dates, F__law_are_dates⟩ := c.fun_ 8 (a := fun K => (He.ga K "_law_are_dates")) (x := "_law_are_dates") (qual := "_law_are_dates") (st := s__law_are_dates) rfl
  obtain ⟨fd__law_key, F__law_key⟩ := c.fun_ 9 (a := fun K => (He.ga K "_law_key")) (x := "_law_key") (qual := "_law_key") (st := s__law_key) rfl
  obtain ⟨fd__law_due, F__law_due⟩ := c.fun_ 10 (a := fun K => (He.ga K "_law_due")) (x := "_law_due") (qual := "_law_due") (st := s__law_due) rfl
  obtain ⟨fd__law_caught, F__law_caught⟩ := c.fun_ 11 (a := fun K => (He.ga K "_law_caught")) (x := "_law_caught") (qual := "_law_caught") (st := s__law_caught) rfl
  obtain ⟨fd__law_told, F__law_told⟩ := c.fun_ 12 (a := fun K => (He.ga K "_law_told")) (x := "_law_told") (qual := "_law_told") (st := s__law_told) rfl
  obtain ⟨fd_is_kind, F_is_kind⟩ := c.fun_ 13 (a := fun K => (He.ga K "is_kind")) (x := "is_kind") (qual := "is_kind") (st := s_is_kind) rfl
  obtain ⟨fd_BadKind___init__, F_BadKind___init__⟩ := c.fun_ 14 (a := fun K => (He.ma K (He.ga K "BadKind") "__init__")) (x := "__init__") (qual := "BadKind.__init__") (st := s_BadKind___init__) rfl
  obtain ⟨fd_need_kindX, F_need_kindX⟩ := c.fun_ 15 (a := fun K => (He.ga K "need_kind")) (x := "need_kind") (qual := "need_kind") (st := s_need_kindX) rfl
  obtain ⟨fd_is_list, F_is_list⟩ := c.fun_ 16 (a := fun K => (He.ga K "is_list")) (x := "is_list") (qual := "is_list") (st := s_is_list) rfl
  obtain ⟨fd_is_number, F_is_number⟩ := c.fun_ 17 (a := fun K => (He.ga K "is_number")) (x := "is_number") (qual := "is_number") (st := s_is_number) rfl
  obtain ⟨fd_are_different, F_are_different⟩ := c.fun_ 18 (a := fun K => (He.ga K "are_different")) (x := "are_different") (qual := "are_different") (st := s_are_different) rfl
  obtain ⟨fd_are_dates, F_are_dates⟩ := c.fun_ 19 (a := fun K => (He.ga K "are_dates")) (x := "are_dates") (qual := "are_dates") (st := s_are_dates) rfl
  obtain ⟨fd_need_datesX, F_need_datesX⟩ := c.fun_ 20 (a := fun K => (He.ga K "need_dates")) (x := "need_dates") (qual := "need_dates") (st := s_need_datesX) rfl
  obtain ⟨fd_NoDate___init__, F_NoDate___init__⟩ := c.fun_ 21 (a := fun K => (He.ma K (He.ga K "NoDate") "__init__")) (x := "__init__") (qual := "NoDate.__init__") (st := s_NoDate___init__) rfl
  obtain ⟨fd_need_dateX, F_need_dateX⟩ := c.fun_ 22 (a := fun K => (He.ga K "need_date")) (x := "need_date") (qual := "need_date") (st := s_need_dateX) rfl
  obtain ⟨fd_key_by, F_key_by⟩ := c.fun_ 23 (a := fun K => (He.ga K "key_by")) (x := "key_by") (qual := "key_by") (st := s_key_by) rfl
  obtain ⟨fd_key_of, F_key_of⟩ := c.fun_ 24 (a := fun K => (He.ga K "key_of")) (x := "key_of") (qual := "key_of") (st := s_key_of) rfl
  obtain ⟨fd__law_begun, F__law_begun⟩ := c.fun_ 25 (a := fun K => (He.ga K "_law_begun")) (x := "_law_begun") (qual := "_law_begun") (st := s__law_begun) rfl
  obtain ⟨fd_law, D_law⟩ := c.def_ 26 (d := defA (fun K => (He.ga K "law")) "law" "law" s_law) rfl
  have F_law : Fun K "law" "law" s_law (He.ga K "law") fd_law := He5.fun_of D_law
  have e := hfa.symm.trans (He.glo_ok X G (c.fact 76))
  cases e
  have B__law_mixed : Binds K fd__law_mixed ["_law_draw"] [] := F__law_mixed.binds fun _ _ _ _ _ _ us hl => match us, hl with | [_], _ => rfl
  have B__law_take : Binds K fd__law_take ["_law_draw", "_law_many"] [] := F__law_take.binds fun _ _ _ _ _ _ us hl => match us, hl with | [_, _], _ => rfl
  have B__law_pick : Binds K fd__law_pick ["_law_draw", "_law_some"] [] := F__law_pick.binds fun _ _ _ _ _ _ us hl => match us, hl with | [_, _], _ => rfl
  have B__law_shuffled : Binds K fd__law_shuffled ["_law_draw", "_law_some"] [] := F__law_shuffled.binds fun _ _ _ _ _ _ us hl => match us, hl with | [_, _], _ => rfl
  have B__law_datesX : Binds K fd__law_datesX ["_law_draw", "_law_most"] [] := F__law_datesX.binds fun _ _ _ _ _ _ us hl => match us, hl with | [_, _], _ => rfl
  have B__law_kinds : Binds K fd__law_kinds [] [] := F__law_kinds.binds fun _ _ _ _ _ _ us hl => match us, hl with | [], _ => rfl
  have B__law_odd : Binds K fd__law_odd ["_law_draw"] [] := F__law_odd.binds fun _ _ _ _ _ _ us hl => match us, hl with | [_], _ => rfl
  have B__law_bent_dates : Binds K fd__law_bent_dates ["_law_draw", "_law_datesx"] [] := F__law_bent_dates.binds fun _ _ _ _ _ _ us hl => match us, hl with | [_, _], _ => rfl
  have B__law_are_dates : Binds K fd__law_are_dates ["_law_thing"] [] := F__law_are_dates.binds fun _ _ _ _ _ _ us hl => match us, hl with | [_], _ => rfl
  have B__law_key : Binds K fd__law_key ["_law_kindx", "_law_datesx", "_law_datex"] [] := F__law_key.binds fun _ _ _ _ _ _ us hl => match us, hl with | [_, _, _], _ => rfl
  have B__law_due : Binds K fd__law_due ["_law_kindx", "_law_datesx", "_law_datex"] [] := F__law_due.binds fun _ _ _ _ _ _ us hl => match us, hl with | [_, _, _], _ => rfl
  have B__law_caught : Binds K fd__law_caught ["_law_work"] [] := F__law_caught.binds fun _ _ _ _ _ _ us hl => match us, hl with | [_], _ => rfl
  have B__law_told : Binds K fd__law_told ["_law_work"] [] := F__law_told.binds fun _ _ _ _ _ _ us hl => match us, hl with | [_], _ => rfl
  have B_is_kind : Binds K fd_is_kind ["thing"] [] := F_is_kind.binds fun _ _ _ _ _ _ us hl => match us, hl with | [_], _ => rfl
  have B_BadKind___init__ : Binds K fd_BadKind___init__ ["self", "kind"] [] := F_BadKind___init__.binds fun _ _ _ _ _ _ us hl => match us, hl with | [_, _], _ => rfl
  have B_need_kindX : Binds K fd_need_kindX ["kind"] [] := F_need_kindX.binds fun _ _ _ _ _ _ us hl => match us, hl with | [_], _ => rfl
  have B_is_list : Binds K fd_is_list ["thing"] [] := F_is_list.binds fun _ _ _ _ _ _ us hl => match us, hl with | [_], _ => rfl
  have B_is_number : Binds K fd_is_number ["thing"] [] := F_is_number.binds fun _ _ _ _ _ _ us hl => match us, hl with | [_], _ => rfl
  have B_are_different : Binds K fd_are_different ["thing", "least", "most"] [] := F_are_different.binds fun _ _ _ _ _ _ us hl => match us, hl with | [_, _, _], _ => rfl
  have B_are_dates : Binds K fd_are_dates ["thing"] [] := F_are_dates.binds fun _ _ _ _ _ _ us hl => match us, hl with | [_], _ => rfl
  have B_need_datesX : Binds K fd_need_datesX ["dates"] [] := F_need_datesX.binds fun _ _ _ _ _ _ us hl => match us, hl with | [_], _ => rfl
  have B_NoDate___init__ : Binds K fd_NoDate___init__ ["self", "date"] [] := F_NoDate___init__.binds fun _ _ _ _ _ _ us hl => match us, hl with | [_, _], _ => rfl
  have B_need_dateX : Binds K fd_need_dateX ["dates", "date"] [] := F_need_dateX.binds fun _ _ _ _ _ _ us hl => match us, hl with | [_, _], _ => rfl
  have B_key_by : Binds K fd_key_by ["kind", "dates", "date"] [] := F_key_by.binds fun _ _ _ _ _ _ us hl => match us, hl with | [_, _, _], _ => rfl
  have B_key_of : Binds K fd_key_of ["kind", "dates", "date"] [] := F_key_of.binds fun _ _ _ _ _ _ us hl => match us, hl with | [_, _, _], _ => rfl
  have B__law_begun : Binds K fd__law_begun ["_law_script"] [] := F__law_begun.binds fun _ _ _ _ _ _ us hl => match us, hl with | [_], _ => rfl
  have KB_key_of_date_dates_kind : KwB K fd_key_of ["kind", "dates", "date"] 0 ["date", "dates", "kind"] [2, 1, 0] := kwB_of F_key_of fun _ _ _ _ _ _ us ws h1 h2 => match us, h1, ws, h2 with | [], _, [_, _, _], _ => rfl
  have b := FunD.bindsA (ps := ["_law_script"]) D_law fun _ _ _ _ _ _ us hl => match us, hl with | [_], _ => rfl
  exact ⟨fd_law, fun s v => b s [v] rfl, fun base _ _ TBn => dd_law T F_law (code_ofN F_law) ndT TBn F__law_mixed B__law_mixed F__law_take B__law_take F__law_pick B__law_pick F__law_shuffled B__law_shuffled F__law_datesX B__law_datesX F__law_kinds B__law_kinds F__law_odd B__law_odd F__law_bent_dates B__law_bent_dates F__law_are_dates B__law_are_dates F__law_key B__law_key F__law_due B__law_due F__law_caught B__law_caught F__law_told B__law_told F_is_kind B_is_kind F_BadKind___init__ B_BadKind___init__ F_need_kindX B_need_kindX F_is_list B_is_list F_is_number B_is_number F_are_different B_are_different F_are_dates B_are_dates F_need_datesX B_need_datesX F_NoDate___init__ B_NoDate___init__ F_need_dateX B_need_dateX F_key_by B_key_by F_key_of B_key_of F__law_begun B__law_begun KB_key_of_date_dates_kind (code_ofN F__law_told)⟩
end DL
open PySem PySem.W PySem.Calls PyProof.Rows
set_option maxHeartbeats 0 in
theorem PySem.Challenge.cw_stillstruck_k23_keys_made_holds : PySem.Challenge.rw_stillstruck_k23_keys_made.Holds := by
  w_on; o_law
  refine HandSHeadRun.head_any (r := OpenLaw.row PySem.Challenge.rw_stillstruck_k23_keys_made) (q := view (OpenLaw.row PySem.Challenge.rw_stillstruck_k23_keys_made).prog [36]) (H := DL.hk) (ob := DL.ob) (M := 20000) (loose := DL.loose) (d := HandSHeadRun.topDef (OpenLaw.row PySem.Challenge.rw_stillstruck_k23_keys_made).prog 36) (kwd := []) DL.ob_eq
    (by kernel_rfl) (fun s => by kernel_rfl) DL.run (by kernel_rfl) (by kernel_rfl) (by kernel_rfl) (by rfl) (by first | assumption | decide +kernel) (by decide +kernel) ⟨rfl, rfl, rfl, rfl, rfl, by decide +kernel⟩ ?hw ?hc
  case hw => w_witness2
  case hc =>
    refine DL.walk_ofGN (l := PySem.Challenge.rw_stillstruck_k23_keys_made) (n := 63) (k := 10) (x := "_law_script") rfl (by decide) (by kernel_rfl) ⟨rfl, by decide, by decide⟩ ?F
    intro w mg fa h Y G hmg0
    obtain ⟨K, KX, c⟩ := Y
    have hmg : mg ("law" : PySem.Str) = some (.ref fa) := by
      have e : (HandSHeadRun.topDef (OpenLaw.row PySem.Challenge.rw_stillstruck_k23_keys_made).prog 36).name = ("law" : PySem.Str) := by kernel_rfl
      rw [← e]
      exact hmg0
    obtain ⟨fd, hb, hF⟩ := DL.facts (P := (PySem.Challenge.rw_stillstruck_k23_keys_made).prog) (w := w) KX G hmg c
    exact ⟨K, fd, DL.txs.map (DL.cTn K), DL.spLawT K (DL.TlN K DL.txs), KX, c.t1, c.t2, c.t3 KX, hb, fun H a ns hl hHT hS => ⟨a, ns, rfl, hS, by omega, DL.tlN_nil (fun x hx => hHT _ (List.mem_map.mpr ⟨x, hx, rfl⟩)), fun _ => rfl⟩, hF⟩
